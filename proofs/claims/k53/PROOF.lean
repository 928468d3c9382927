import PyProof.Rows.All
import Wide.All
import OpenK.AllK
import Wide.FinOn
import HandS.ForMost
import HandS.Exc
import HandS.ExcOwn
import HandS.TryOnly
import HandS.WordsExc
import HandS.Wide
import HandS.TupAny
import HandS.Deep
import HandS.Flow
import HandS.IsInst
import HandS.Defaults
import HandS.MakeKwOnly
import HandS.EndBits
import KE.KeyNested
import KE.KDictKeyed
import HandS.CallSlots
import HandS.Conv
import KE.DataCmp
import KE.DataMinMax
import KE.SortData
import HandS.ClsMeth
import KE.KOpsOwn
import PySem.Challenge.RW_pagestyles_k53_rivers_and_twins
set_option Elab.async false
set_option linter.all false
set_option maxRecDepth 100000
/-! the values, the heap, the results -/
namespace DL
open PySem PySem.Spec PyProof.Rows L2

inductive D where
  | non | bl (b : Bool) | int (i : Int) | str (x : Str) | tup (xs : List D) | scr (xs : List D) | ref (n : Nat)
instance : Inhabited D := ⟨.non⟩
inductive DO where
  | lst (xs : List D) | dict (kvs : List (D × D)) | ins (C : Str) (fs : List (Str × D))
abbrev DH := List DO
structure DX where
  cls : Str
  fs : List (Str × D)
inductive R (α : Type) where
  | ok (a : α) (h : DH) | exc (x : DX) (h : DH) | stuck
abbrev En := List (Option D)
def R.bind {α β : Type} (r : R α) (f : α → DH → R β) : R β := match r with
  | .ok a h => f a h
  | .exc x h => .exc x h
  | .stuck => .stuck
@[simp] theorem R.bind_ok {α β : Type} {a : α} {h : DH} {f : α → DH → R β} : (R.ok a h).bind f = f a h := rfl
@[simp] theorem R.bind_exc {α β : Type} {x : DX} {h : DH} {f : α → DH → R β} : (R.exc x h : R α).bind f = .exc x h := rfl
@[simp] theorem R.bind_stuck {α β : Type} {f : α → DH → R β} : (R.stuck : R α).bind f = .stuck := rfl

structure Sg where
  K : PySem.W.Frag
  mg : Str → Option Value
def Sg.cl (S : Sg) (x : Str) : Addr := match S.mg x with | some (.ref a) => a | _ => 0

/-! ### what a value of the heap is -/
/-- a list that nobody writes: locked, or of the module -/
def SqF (K : PySem.W.Frag) (H : Hp) (a : Addr) (xs : List V) : Prop :=
  (∃ o, H a = some (.frz o (.lst xs))) ∨
    ∃ (o : Obj) (its : Array Value) (n : Nat), K.lookup a = some o ∧ o.cls = .type "list" ∧ o.dict = none ∧ o.data = .seq its n ∧ its.size ≤ sizeLine ∧ Vals xs its.toList
theorem SqF.sq {K : PySem.W.Frag} {H : Hp} {a : Addr} {xs : List V} (h : SqF K H a xs) : SqL K H a xs := by
  rcases h with h | h
  · exact .inl (.inr h)
  · exact .inr h
def PX (ι ι' : List Addr) : Prop := ∀ (n : Nat) (a : Addr), ι[n]? = some a → ι'[n]? = some a
theorem PX.refl (ι : List Addr) : PX ι ι := fun _ _ h => h
theorem PX.trans {ι ι1 ι2 : List Addr} (a : PX ι ι1) (b : PX ι1 ι2) : PX ι ι2 := fun n x h => b n x (a n x h)
theorem PX.app (ι r : List Addr) : PX ι (ι ++ r) := fun n a h => by
  rw [List.getElem?_append_left (List.getElem?_eq_some_iff.mp h).1]
  exact h
mutual
def RV (S : Sg) (H : Hp) (ι : List Addr) : D → V → Prop
  | .non, v => v = .non
  | .bl b, v => v = .bl b
  | .int i, v => v = .int i
  | .str x, v => v = .str x
  | .ref n, v => ∃ a, ι[n]? = some a ∧ v = .ref a
  | .tup ds, v => ∃ a vs, v = .ref a ∧ SqT S.K H a vs ∧ RVs S H ι ds vs
  | .scr ds, v => ∃ a vs, v = .ref a ∧ SqF S.K H a vs ∧ RVs S H ι ds vs
def RVs (S : Sg) (H : Hp) (ι : List Addr) : List D → List V → Prop
  | [], vs => vs = []
  | d :: ds, vs => ∃ v r, vs = v :: r ∧ RV S H ι d v ∧ RVs S H ι ds r
end
/-- what stays: tuples, locked things -/
structure TM (H H' : Hp) : Prop where
  tup : ∀ a xs, H a = some (.tup xs) → H' a = some (.tup xs)
  frz : ∀ a o u, H a = some (.frz o u) → H' a = some (.frz o u)
theorem TM.refl (H : Hp) : TM H H := ⟨fun _ _ h => h, fun _ _ _ h => h⟩
theorem TM.trans {H H1 H2 : Hp} (a : TM H H1) (b : TM H1 H2) : TM H H2 := ⟨fun x xs h => b.tup x xs (a.tup x xs h), fun x o u h => b.frz x o u (a.frz x o u h)⟩
theorem TM.sqT {H H' : Hp} {K : PySem.W.Frag} {a : Addr} {xs : List V} (t : TM H H') (h : SqT K H a xs) : SqT K H' a xs := by
  rcases h with (h | ⟨o, h⟩) | h
  · exact .inl (.inl (t.tup _ _ h))
  · exact .inl (.inr ⟨o, t.frz _ _ _ h⟩)
  · exact .inr h
theorem TM.sqF {H H' : Hp} {K : PySem.W.Frag} {a : Addr} {xs : List V} (t : TM H H') (h : SqF K H a xs) : SqF K H' a xs := by
  rcases h with ⟨o, h⟩ | h
  · exact .inl ⟨o, t.frz _ _ _ h⟩
  · exact .inr h
mutual
theorem RV.mono {S : Sg} {H H' : Hp} {ι ι' : List Addr} (t : TM H H') (p : PX ι ι') : ∀ (d : D) (v : V), RV S H ι d v → RV S H' ι' d v
  | .non, _, h => by simpa [RV] using h
  | .bl _, _, h => by simpa [RV] using h
  | .int _, _, h => by simpa [RV] using h
  | .str _, _, h => by simpa [RV] using h
  | .ref n, v, h => by
    simp only [RV] at h ⊢
    obtain ⟨a, e, r⟩ := h
    exact ⟨a, p n a e, r⟩
  | .tup ds, v, h => by
    simp only [RV] at h ⊢
    obtain ⟨a, vs, e, q, r⟩ := h
    exact ⟨a, vs, e, t.sqT q, RVs.mono t p ds vs r⟩
  | .scr ds, v, h => by
    simp only [RV] at h ⊢
    obtain ⟨a, vs, e, q, r⟩ := h
    exact ⟨a, vs, e, t.sqF q, RVs.mono t p ds vs r⟩
theorem RVs.mono {S : Sg} {H H' : Hp} {ι ι' : List Addr} (t : TM H H') (p : PX ι ι') : ∀ (ds : List D) (vs : List V), RVs S H ι ds vs → RVs S H' ι' ds vs
  | [], _, h => by simpa [RVs] using h
  | d :: ds, vs, h => by
    simp only [RVs] at h ⊢
    obtain ⟨v, r, e, h1, h2⟩ := h
    exact ⟨v, r, e, RV.mono t p d v h1, RVs.mono t p ds r h2⟩
end
theorem RVs.length {S : Sg} {H : Hp} {ι : List Addr} : ∀ {ds : List D} {vs : List V}, RVs S H ι ds vs → vs.length = ds.length
  | [], vs, h => by simp only [RVs] at h; subst h; rfl
  | d :: ds, vs, h => by
    simp only [RVs] at h
    obtain ⟨v, r, rfl, _, h2⟩ := h
    simp [RVs.length h2]
theorem RVs.get {S : Sg} {H : Hp} {ι : List Addr} : ∀ {ds : List D} {vs : List V} {i : Nat} {d : D}, RVs S H ι ds vs → ds[i]? = some d → ∃ v, vs[i]? = some v ∧ RV S H ι d v
  | [], vs, i, d, _, e => by simp at e
  | d0 :: ds, vs, i, d, h, e => by
    simp only [RVs] at h
    obtain ⟨v, r, rfl, h1, h2⟩ := h
    cases i with
    | zero => simp at e; subst e; exact ⟨v, rfl, h1⟩
    | succ i => simp at e; simpa using RVs.get (i := i) h2 e
theorem RVs.get' {S : Sg} {H : Hp} {ι : List Addr} {ds : List D} {vs : List V} {i : Nat} {v : V} (h : RVs S H ι ds vs) (e : vs[i]? = some v) : ∃ d, ds[i]? = some d ∧ RV S H ι d v := by
  have hl := h.length
  obtain ⟨hi, _⟩ := List.getElem?_eq_some_iff.mp e
  obtain ⟨d, hd⟩ : ∃ d, ds[i]? = some d := ⟨ds[i]'(by omega), List.getElem?_eq_getElem (by omega)⟩
  obtain ⟨v', e', r⟩ := h.get hd
  rw [e] at e'; cases e'
  exact ⟨d, hd, r⟩
theorem RVs.append {S : Sg} {H : Hp} {ι : List Addr} : ∀ {ds es : List D} {vs ws : List V}, RVs S H ι ds vs → RVs S H ι es ws → RVs S H ι (ds ++ es) (vs ++ ws)
  | [], es, vs, ws, h, h' => by simp only [RVs] at h; subst h; simpa using h'
  | d :: ds, es, vs, ws, h, h' => by
    simp only [RVs] at h
    obtain ⟨v, r, rfl, h1, h2⟩ := h
    simp only [List.cons_append, RVs]
    exact ⟨v, r ++ ws, rfl, h1, RVs.append h2 h'⟩
theorem RVs.of_get {S : Sg} {H : Hp} {ι : List Addr} : ∀ {ds : List D} {vs : List V}, vs.length = ds.length → (∀ (i : Nat) (d : D), ds[i]? = some d → ∃ v, vs[i]? = some v ∧ RV S H ι d v) → RVs S H ι ds vs
  | [], [], _, _ => by simp [RVs]
  | [], _ :: _, e, _ => by simp at e
  | _ :: _, [], e, _ => by simp at e
  | d :: ds, v :: vs, e, h => by
    simp only [RVs]
    refine ⟨v, vs, rfl, ?_, RVs.of_get (by simpa using e) fun i d' hd => by simpa using h (i + 1) d' (by simpa using hd)⟩
    obtain ⟨v', e', r⟩ := h 0 d (by simp)
    simp at e'; subst e'; exact r
theorem RVs.one {S : Sg} {H : Hp} {ι : List Addr} {d : D} {v : V} (h : RV S H ι d v) : RVs S H ι [d] [v] := by
  simp only [RVs]; exact ⟨v, [], rfl, h, rfl⟩
theorem RVs.take {S : Sg} {H : Hp} {ι : List Addr} {ds : List D} {vs : List V} (n : Nat) (h : RVs S H ι ds vs) : RVs S H ι (ds.take n) (vs.take n) := by
  refine RVs.of_get (by simp [h.length]) fun i d e => ?_
  rw [List.getElem?_take] at e ⊢
  split at e
  · rename_i hi; rw [if_pos hi]; exact h.get e
  · cases e
theorem RVs.drop {S : Sg} {H : Hp} {ι : List Addr} {ds : List D} {vs : List V} (n : Nat) (h : RVs S H ι ds vs) : RVs S H ι (ds.drop n) (vs.drop n) := by
  refine RVs.of_get (by simp [h.length]) fun i d e => ?_
  rw [List.getElem?_drop] at e ⊢
  exact h.get e
theorem RVs.set {S : Sg} {H : Hp} {ι : List Addr} {ds : List D} {vs : List V} {d : D} {v : V} (n : Nat) (h : RVs S H ι ds vs) (r : RV S H ι d v) : RVs S H ι (ds.set n d) (vs.set n v) := by
  refine RVs.of_get (by simp [h.length]) fun i d' e => ?_
  rw [List.getElem?_set] at e ⊢
  have hl := h.length
  split at e
  · rename_i hi
    rw [if_pos hi]
    split at e
    · cases e
      rename_i h3
      rw [if_pos (by omega)]
      exact ⟨v, rfl, r⟩
    · cases e
  · rename_i hi; rw [if_neg hi]; exact h.get e
theorem RVs.ints {S : Sg} {H : Hp} {ι : List Addr} : ∀ {ns : List Int} {vs : List V}, RVs S H ι (ns.map D.int) vs ↔ vs = ns.map V.int
  | [], vs => by simp [RVs]
  | n :: ns, vs => by
    simp only [List.map_cons, RVs, RV]
    constructor
    · rintro ⟨v, r, rfl, rfl, h⟩
      rw [RVs.ints.mp h]
    · rintro rfl
      exact ⟨_, _, rfl, rfl, RVs.ints.mpr rfl⟩

/-! ### fields -/
def RFs (S : Sg) (H : Hp) (ι : List Addr) : List (Str × D) → List (Str × V) → Prop
  | [], gs => gs = []
  | (x, d) :: fs, gs => ∃ v r, gs = (x, v) :: r ∧ RV S H ι d v ∧ RFs S H ι fs r
theorem RFs.mono {S : Sg} {H H' : Hp} {ι ι' : List Addr} (t : TM H H') (p : PX ι ι') : ∀ {fs : List (Str × D)} {gs : List (Str × V)}, RFs S H ι fs gs → RFs S H' ι' fs gs
  | [], _, h => h
  | (x, d) :: fs, gs, h => by
    obtain ⟨v, r, e, h1, h2⟩ := h
    exact ⟨v, r, e, RV.mono t p d v h1, RFs.mono t p h2⟩
theorem RFs.length {S : Sg} {H : Hp} {ι : List Addr} : ∀ {fs : List (Str × D)} {gs : List (Str × V)}, RFs S H ι fs gs → gs.length = fs.length
  | [], gs, h => by cases h; rfl
  | (x, d) :: fs, gs, h => by
    obtain ⟨v, r, rfl, h1, h2⟩ := h
    simp [RFs.length h2]
theorem RFs.lookup {S : Sg} {H : Hp} {ι : List Addr} {f : Str} : ∀ {fs : List (Str × D)} {gs : List (Str × V)} {d : D}, RFs S H ι fs gs → fs.lookup f = some d → ∃ v, gs.lookup f = some v ∧ RV S H ι d v
  | [], gs, d, h, e => by simp at e
  | (x, d0) :: fs, gs, d, h, e => by
    obtain ⟨v, r, rfl, h1, h2⟩ := h
    rw [List.lookup_cons] at e ⊢
    split at e
    · cases e; exact ⟨v, rfl, h1⟩
    · exact RFs.lookup h2 e
theorem RFs.lookup_none {S : Sg} {H : Hp} {ι : List Addr} {f : Str} : ∀ {fs : List (Str × D)} {gs : List (Str × V)}, RFs S H ι fs gs → fs.lookup f = none → gs.lookup f = none
  | [], gs, h, e => by cases h; rfl
  | (x, d0) :: fs, gs, h, e => by
    obtain ⟨v, r, rfl, h1, h2⟩ := h
    rw [List.lookup_cons] at e ⊢
    split at e
    · cases e
    · exact RFs.lookup_none h2 e
def putD (f : Str) (d : D) : List (Str × D) → List (Str × D)
  | [] => [(f, d)]
  | (g, e) :: r => if g = f then (g, d) :: r else (g, e) :: putD f d r

theorem RFs.put {S : Sg} {H : Hp} {ι : List Addr} {f : Str} {d : D} {v : V} (h : RV S H ι d v) : ∀ {fs : List (Str × D)} {gs : List (Str × V)}, RFs S H ι fs gs → RFs S H ι (putD f d fs) (putF f v gs)
  | [], gs, e => by cases e; exact ⟨v, [], rfl, h, rfl⟩
  | (x, d0) :: fs, gs, e => by
    obtain ⟨w, r, rfl, h1, h2⟩ := e
    unfold putD putF
    by_cases hx : x = f
    · rw [if_pos hx, if_pos hx]; exact ⟨v, r, rfl, h, h2⟩
    · rw [if_neg hx, if_neg hx]; exact ⟨w, _, rfl, h1, RFs.put h h2⟩

/-! ### objects, the heap -/
/-- a dict by its entries: keys' tuples and values as they stand -/
def DictRaw (P : Program) (w : World) (a : Addr) (xs : List (NestedKey × Addr × Value)) (h : Heap) : Prop :=
  ∃ o es ep, h.get? a = some o ∧ o.ExactDict ∧ o.data = .dict es ep ∧ es.toList = xs.map (entryOfKey (nestedKind P w)) ∧ (xs.map (·.1)).Nodup
mutual
def nk : D → Option NestedKey
  | .non => some NestedKey.none
  | .int i => some (.num i)
  | .str x => some (.text x)
  | .tup ds => (nks ds).map NestedKey.tup
  | _ => none
def nks : List D → Option (List NestedKey)
  | [] => some []
  | d :: ds => (nk d).bind fun k => (nks ds).map fun r => k :: r
end
/-- the entries of a dict -/
def RDs (S : Sg) (H : Hp) (ι : List Addr) : List (D × D) → List (NestedKey × Addr × Value) → Prop
  | [], xs => xs = []
  | (k, d) :: kvs, xs => ∃ n a u v r, xs = (n, a, u) :: r ∧ nk k = some n ∧ n.depth ≤ 8 ∧ RV S H ι k (.ref a) ∧ RelV v u ∧ RV S H ι d v ∧ RDs S H ι kvs r
theorem RDs.mono {S : Sg} {H H' : Hp} {ι ι' : List Addr} (t : TM H H') (p : PX ι ι') : ∀ {kvs : List (D × D)} {xs : List (NestedKey × Addr × Value)}, RDs S H ι kvs xs → RDs S H' ι' kvs xs
  | [], _, h => h
  | (k, d) :: fs, xs, h => by
    obtain ⟨n, a, u, v, r, e, h1, h2, h3, h4, h5, h6⟩ := h
    exact ⟨n, a, u, v, r, e, h1, h2, RV.mono t p _ _ h3, h4, RV.mono t p _ _ h5, RDs.mono t p h6⟩
structure Wd where
  P : Program
  w : World
def RO (W : Wd) (S : Sg) (H : Hp) (ι : List Addr) (a : Addr) : DO → Prop
  | .lst ds => ∃ vs, H a = some (.lst vs) ∧ RVs S H ι ds vs
  | .dict kvs => ∃ xs, H a = some (.ext (DictRaw W.P W.w a xs)) ∧ kvs.length ≤ sizeLine ∧ (a == sysModules) = false ∧ RDs S H ι kvs xs
  | .ins C fs => ∃ dx gs, H a = some (.ins (S.cl C) dx gs) ∧ RFs S H ι fs gs
theorem RO.mono {W : Wd} {S : Sg} {H H' : Hp} {ι ι' : List Addr} {a : Addr} {o : DO} (t : TM H H') (p : PX ι ι') (e : H' a = H a) (h : RO W S H ι a o) : RO W S H' ι' a o := by
  cases o with
  | lst ds => obtain ⟨vs, h1, h2⟩ := h; exact ⟨vs, e.trans h1, RVs.mono t p _ _ h2⟩
  | dict kvs => obtain ⟨xs, h1, h2, h3, h4⟩ := h; exact ⟨xs, e.trans h1, h2, h3, RDs.mono t p h4⟩
  | ins C fs => obtain ⟨dx, gs, h1, h2⟩ := h; exact ⟨dx, gs, e.trans h1, RFs.mono t p h2⟩
structure RH (W : Wd) (S : Sg) (H : Hp) (ι : List Addr) (hp : DH) : Prop where
  len : ι.length = hp.length
  nd : ι.Nodup
  obj : ∀ (n : Nat) (a : Addr) (o : DO), ι[n]? = some a → hp[n]? = some o → RO W S H ι a o
structure Stp (H : Hp) (ι : List Addr) (H' : Hp) (ι' : List Addr) : Prop where
  px : PX ι ι'
  tm : TM H H'
  new : ∀ a ∈ ι', a ∈ ι ∨ H a = none
  old : ∀ a o, a ∉ ι → H a = some o → H' a = some o
end DL
namespace DL
open PySem PySem.Spec PyProof.Rows L2

theorem Stp.refl (H : Hp) (ι : List Addr) : Stp H ι H ι := ⟨PX.refl ι, TM.refl H, fun _ h => .inl h, fun _ _ _ h => h⟩
theorem Stp.trans {H H1 H2 : Hp} {ι ι1 ι2 : List Addr} (a : Stp H ι H1 ι1) (b : Stp H1 ι1 H2 ι2) : Stp H ι H2 ι2 := by
  refine ⟨a.px.trans b.px, a.tm.trans b.tm, fun x hx => ?_, fun x o n h => ?_⟩
  · rcases b.new x hx with h | h
    · exact a.new x h
    · by_cases hi : x ∈ ι
      · exact .inl hi
      · cases e : H x with
        | none => exact .inr rfl
        | some o => have := a.old x o hi e; rw [h] at this; cases this
  · refine b.old x o (fun hx => ?_) (a.old x o n h)
    rcases a.new x hx with z | z
    · exact n z
    · rw [h] at z; cases z
/-- nothing of the index list, a new thing -/
theorem Stp.upd {H : Hp} {ι : List Addr} {p : Addr} {o : HO} (hp : H p = none) : Stp H ι (upd H p o) ι :=
  ⟨PX.refl ι, ⟨fun a xs h => by rw [upd_ne (ne_of_none h hp)]; exact h, fun a o u h => by rw [upd_ne (ne_of_none h hp)]; exact h⟩, fun _ h => .inl h, fun a o _ h => by rw [upd_ne (ne_of_none h hp)]; exact h⟩
theorem Stp.add {H H1 : Hp} {ι ι1 : List Addr} {p : Addr} (s : Stp H ι H1 ι1) (hp : H p = none) : Stp H ι H1 (ι1 ++ [p]) :=
  ⟨s.px.trans (PX.app _ _), s.tm, fun a h => by
    rcases List.mem_append.mp h with h | h
    · exact s.new a h
    · rw [List.mem_singleton.mp h]; exact .inr hp, s.old⟩

section
variable {W : Wd} {S : Sg} {H H' : Hp} {ι ι' : List Addr} {hp : DH}
theorem RO.some {a : Addr} {o : DO} (h : RO W S H ι a o) : ∃ u, H a = some u ∧ (∀ xs, u ≠ .tup xs) ∧ (∀ x y, u ≠ .frz x y) := by
  cases o with
  | lst ds => obtain ⟨vs, h1, _⟩ := h; exact ⟨_, h1, (fun _ z => by cases z), (fun _ _ z => by cases z)⟩
  | dict kvs => obtain ⟨xs, h1, _⟩ := h; exact ⟨_, h1, (fun _ z => by cases z), (fun _ _ z => by cases z)⟩
  | ins C fs => obtain ⟨dx, gs, h1, _⟩ := h; exact ⟨_, h1, (fun _ z => by cases z), (fun _ _ z => by cases z)⟩
theorem RH.at (h : RH W S H ι hp) {n : Nat} {a : Addr} (e : ι[n]? = some a) : ∃ o, hp[n]? = some o ∧ RO W S H ι a o := by
  have hl := h.len
  obtain ⟨hn, _⟩ := List.getElem?_eq_some_iff.mp e
  obtain ⟨o, ho⟩ : ∃ o, hp[n]? = some o := ⟨hp[n]'(by omega), List.getElem?_eq_getElem (by omega)⟩
  exact ⟨o, ho, h.obj n a o e ho⟩
theorem RH.ix (h : RH W S H ι hp) {n : Nat} {o : DO} (e : hp[n]? = some o) : ∃ a, ι[n]? = some a ∧ RO W S H ι a o := by
  have hl := h.len
  obtain ⟨hn, _⟩ := List.getElem?_eq_some_iff.mp e
  obtain ⟨a, ha⟩ : ∃ a, ι[n]? = some a := ⟨ι[n]'(by omega), List.getElem?_eq_getElem (by omega)⟩
  exact ⟨a, ha, h.obj n a o ha e⟩
theorem RH.mem (h : RH W S H ι hp) {a : Addr} (e : a ∈ ι) : ∃ u, H a = some u ∧ (∀ xs, u ≠ .tup xs) ∧ (∀ x y, u ≠ .frz x y) := by
  obtain ⟨n, hn⟩ := List.mem_iff_getElem?.mp e
  obtain ⟨o, _, r⟩ := h.at hn
  exact r.some
/-- the heap changed elsewhere -/
theorem RH.keep (h : RH W S H ι hp) (t : TM H H') (k : ∀ a ∈ ι, H' a = H a) : RH W S H' ι hp :=
  ⟨h.len, h.nd, fun n a o e1 e2 => (h.obj n a o e1 e2).mono t (PX.refl ι) (k a (List.mem_of_getElem? e1))⟩
theorem RH.newt (h : RH W S H ι hp) {p : Addr} {u : HO} (np : H p = none) : RH W S (upd H p u) ι hp :=
  h.keep (Stp.upd (ι := ι) np).tm fun a ha => upd_ne fun e => by
    obtain ⟨o, e1, _⟩ := h.mem ha
    rw [e, np] at e1; cases e1
theorem RH.alloc (h : RH W S H ι hp) {p : Addr} {u : HO} {o : DO} (np : H p = none) (r : RO W S (upd H p u) (ι ++ [p]) p o) : RH W S (upd H p u) (ι ++ [p]) (hp ++ [o]) := by
  have h1 := h.newt (u := u) np
  refine ⟨by simp [h.len], ?_, fun n a o' e1 e2 => ?_⟩
  · rw [List.nodup_append]
    refine ⟨h.nd, by simp, fun a ha b hb => ?_⟩
    rw [List.mem_singleton.mp hb]
    rintro rfl
    obtain ⟨o, e1, _⟩ := h.mem ha
    rw [np] at e1; cases e1
  · by_cases hn : n < ι.length
    · rw [List.getElem?_append_left hn] at e1
      rw [List.getElem?_append_left (by rw [← h.len]; exact hn)] at e2
      exact (h1.obj n a o' e1 e2).mono (TM.refl _) (PX.app _ _) rfl
    · rw [List.getElem?_append_right (by omega)] at e1
      rw [List.getElem?_append_right (by rw [← h.len]; omega)] at e2
      have hn2 : n - ι.length = 0 := by
        have := (List.getElem?_eq_some_iff.mp e1).1
        simpa using this
      rw [← h.len, hn2] at e2
      rw [hn2] at e1
      simp at e1 e2
      subst e1 e2
      exact r
theorem RH.write (h : RH W S H ι hp) {n : Nat} {a : Addr} {o : DO} {u : HO} (e : ι[n]? = some a) (t : TM H (upd H a u)) (r : RO W S (upd H a u) ι a o) : RH W S (upd H a u) ι (hp.set n o) := by
  refine ⟨by simp [h.len], h.nd, fun m b o' e1 e2 => ?_⟩
  by_cases hm : n = m
  · subst hm
    rw [e] at e1; cases e1
    rw [List.getElem?_set] at e2
    simp at e2
    obtain ⟨_, e2⟩ := e2
    subst e2; exact r
  · rw [List.getElem?_set_ne hm] at e2
    refine (h.obj m b o' e1 e2).mono t (PX.refl ι) (upd_ne fun z => ?_)
    subst z
    obtain ⟨h1, g1⟩ := List.getElem?_eq_some_iff.mp e
    obtain ⟨h2, g2⟩ := List.getElem?_eq_some_iff.mp e1
    exact hm ((List.getElem_inj h.nd).mp (g1.trans g2.symm))
theorem RH.tmw (h : RH W S H ι hp) {a : Addr} {u : HO} (e : a ∈ ι) : TM H (upd H a u) := by
  obtain ⟨o, e1, e2, e3⟩ := h.mem e
  refine ⟨fun b xs q => ?_, fun b x y q => ?_⟩
  · rw [upd_ne fun z => ?_]; exact q
    subst z; rw [e1] at q; cases q; exact e2 _ rfl
  · rw [upd_ne fun z => ?_]; exact q
    subst z; rw [e1] at q; cases q; exact e3 _ _ rfl
theorem RH.stpw (h : RH W S H ι hp) {a : Addr} {u : HO} (e : a ∈ ι) : Stp H ι (upd H a u) ι :=
  ⟨PX.refl ι, h.tmw e, fun _ h => .inl h, fun b o nb q => by
    have hb : b ≠ a := fun z => nb (by rw [z]; exact e)
    rw [upd_ne hb]; exact q⟩
end

/-- slots -/
structure RS (S : Sg) (H : Hp) (ι : List Addr) (env : En) (σ : L2.St) : Prop where
  len : σ.length = env.length
  get : ∀ (i : Nat) (d : D), env[i]? = some (some d) → ∃ v, σ[i]? = some (some v) ∧ RV S H ι d v
theorem RS.mono {S : Sg} {H H' : Hp} {ι ι' : List Addr} {env : En} {σ : L2.St} (s : Stp H ι H' ι') (r : RS S H ι env σ) : RS S H' ι' env σ :=
  ⟨r.len, fun i d e => let ⟨v, h1, h2⟩ := r.get i d e; ⟨v, h1, RV.mono s.tm s.px d v h2⟩⟩
theorem RS.set {S : Sg} {H : Hp} {ι : List Addr} {env : En} {σ : L2.St} {i : Nat} {d : D} {v : V} (r : RS S H ι env σ) (h : RV S H ι d v) : RS S H ι (env.set i (some d)) (σ.set i (some v)) := by
  refine ⟨by simp [r.len], fun j e hj => ?_⟩
  rw [List.getElem?_set] at hj ⊢
  split at hj
  · rename_i hi
    rw [if_pos hi]
    split at hj
    · rename_i h3
      cases hj
      rw [if_pos (by rw [r.len]; exact h3)]
      exact ⟨v, rfl, h⟩
    · cases hj
  · rename_i hi
    rw [if_neg hi]
    exact r.get j e hj
def wipeE (env : En) : List Nat → En
  | [] => env
  | v :: vs => (wipeE env vs).set v none
theorem RS.wipe {S : Sg} {H : Hp} {ι : List Addr} {env : En} {σ : L2.St} (r : RS S H ι env σ) : ∀ vs : List Nat, RS S H ι (wipeE env vs) (L2.wipe σ vs)
  | [] => r
  | v :: vs => by
    have ih := RS.wipe r vs
    refine ⟨by simp [wipeE, L2.wipe, ih.len], fun j e hj => ?_⟩
    unfold wipeE at hj
    unfold L2.wipe
    rw [List.getElem?_set] at hj ⊢
    split at hj
    · split at hj
      · cases hj
      · cases hj
    · rename_i hi
      rw [if_neg hi]
      exact ih.get j e hj

/-! ### readings of the values' own side -/
def RX (S : Sg) (H : Hp) (ι : List Addr) (x : DX) (cls : Value) (d : Option Addr) : Prop :=
  cls = .ref (S.cl x.cls) ∧ ((x.fs = [] ∧ d = none) ∨ ∃ dd gs, d = some dd ∧ H dd = some (.xd gs) ∧ RFs S H ι x.fs gs)
def OutG {α β : Type} (W : Wd) (S : Sg) (Wx : WX) (rel : Hp → List Addr → α → β → Prop) (σ : L2.St) (H : Hp) (ι : List Addr) (r : R α) (Q : β → Hp → Prop) : Prop :=
  match r with
  | .ok a hp => ∀ v H' ι', Stp H ι H' ι' → RH W S H' ι' hp → rel H' ι' a v → Q v H'
  | .exc x hp => ∀ cls d H' ι', Stp H ι H' ι' → RH W S H' ι' hp → RX S H' ι' x cls d → Wx cls d σ H'
  | .stuck => False
abbrev MG (α : Type) := En → DH → R α
abbrev ME := MG D
def tG {α β : Type} (W : Wd) (S : Sg) (Wx : WX) (rel : Hp → List Addr → α → β → Prop) (m : MG α) : L2.St → Hp → (β → Hp → Prop) → Prop := fun σ H Q =>
  ∃ ι env hp, RS S H ι env σ ∧ RH W S H ι hp ∧ OutG W S Wx rel σ H ι (m env hp) Q
abbrev tD (W : Wd) (S : Sg) (Wx : WX) (m : ME) : TE := tG W S Wx (RV S) m
abbrev tDs (W : Wd) (S : Sg) (Wx : WX) (m : MG (List D)) : TA := tG W S Wx (RVs S) m
abbrev tDb (W : Wd) (S : Sg) (Wx : WX) (m : MG Bool) : TT := tG W S Wx (fun _ _ (a b : Bool) => a = b) m
section
variable {W : Wd} {S : Sg} {Wx : WX} {α β γ δ : Type} {rel : Hp → List Addr → α → β → Prop} {rel2 : Hp → List Addr → γ → δ → Prop} {σ : L2.St} {H H' : Hp} {ι ι' : List Addr} {hp hp' : DH} {env : En}
theorem OutG.mono {r : R α} {Q : β → Hp → Prop} (s : Stp H ι H' ι') (h : OutG W S Wx rel σ H ι r Q) : OutG W S Wx rel σ H' ι' r Q := by
  cases r with
  | ok a hp => exact fun v H2 ι2 s2 => h v H2 ι2 (s.trans s2)
  | exc x hp => exact fun c d H2 ι2 s2 => h c d H2 ι2 (s.trans s2)
  | stuck => exact h
theorem OutG.ok {a : α} {v : β} {Q : β → Hp → Prop} (h : OutG W S Wx rel σ H ι (.ok a hp) Q) (s : Stp H ι H' ι') (r : RH W S H' ι' hp) (e : rel H' ι' a v) : Q v H' := h v H' ι' s r e
theorem OutG.bind {r : R α} {f : α → DH → R γ} {Q : δ → Hp → Prop} (h : OutG W S Wx rel2 σ H ι (r.bind f) Q) {K : β → Hp → Prop}
    (hk : ∀ a v H1 ι1 hp1, Stp H ι H1 ι1 → RH W S H1 ι1 hp1 → rel H1 ι1 a v → OutG W S Wx rel2 σ H1 ι1 (f a hp1) Q → K v H1) : OutG W S Wx rel σ H ι r K := by
  cases r with
  | ok a hp => exact fun v H1 ι1 s r e => hk a v H1 ι1 hp s r e (OutG.mono s h)
  | exc x hp => exact h
  | stuck => exact h
theorem tG_bind {m : MG α} {f : En → α → DH → R γ} {Q : δ → Hp → Prop} (h : tG W S Wx rel2 (fun env hp => (m env hp).bind (f env)) σ H Q) {K : β → Hp → Prop}
    (hk : ∀ env ι a v H1 hp1, RS S H1 ι env σ → RH W S H1 ι hp1 → rel H1 ι a v → OutG W S Wx rel2 σ H1 ι (f env a hp1) Q → K v H1) : tG W S Wx rel m σ H K := by
  obtain ⟨ι, env, hp, rs, rh, o⟩ := h
  exact ⟨ι, env, hp, rs, rh, OutG.bind o fun a v H1 ι1 hp1 s r e o1 => hk env ι1 a v H1 hp1 (rs.mono s) r e o1⟩
theorem tG_in {m : MG α} {Q : β → Hp → Prop} (rs : RS S H ι env σ) (rh : RH W S H ι hp) (h : OutG W S Wx rel σ H ι (m env hp) Q) : tG W S Wx rel m σ H Q := ⟨ι, env, hp, rs, rh, h⟩
end
theorem PE.imp {X : Cx} {e : Expr} {t t' : TE} (h : PE X e t) (i : ∀ σ H Q, t' σ H Q → t σ H Q) : PE X e t' := ⟨fun pins s σ H Q I q => h.run pins s σ H Q I (i σ H Q q)⟩
theorem PT.imp {X : Cx} {e : Expr} {t t' : TT} (h : PT X e t) (i : ∀ σ H Q, t' σ H Q → t σ H Q) : PT X e t' := ⟨fun pins s σ H Q I q => h.run pins s σ H Q I (i σ H Q q)⟩
theorem PW.imp {X : Cx} {e : Expr} {t t' : TT} (h : PW X e t) (i : ∀ σ H Q, t' σ H Q → t σ H Q) : PW X e t' := ⟨fun w pins s σ H Q I q => h.run w pins s σ H Q I (i σ H Q q)⟩
theorem PA.imp {X : Cx} {e : List Expr} {t t' : TA} (h : PA X e t) (i : ∀ σ H Q, t' σ H Q → t σ H Q) : PA X e t' := ⟨fun p pins s σ H Q I q => h.run p pins s σ H Q I (i σ H Q q)⟩
theorem PS.imp {X : Cx} {e : Stmt} {t t' : TS} (h : PS X e t) (i : ∀ D σ H, t' D σ H → t D σ H) : PS X e t' := ⟨fun pins s σ H D I q => h.run pins s σ H D I (i D σ H q)⟩
theorem PSs.imp {X : Cx} {e : List Stmt} {t t' : TS} (h : PSs X e t) (i : ∀ D σ H, t' D σ H → t D σ H) : PSs X e t' := ⟨fun pins s σ H D I q => h.run pins s σ H D I (i D σ H q)⟩
end DL
namespace DL
open PySem PySem.Spec PyProof.Rows L2

abbrev wd (X : Cx) : Wd := ⟨X.prog, X.w⟩
abbrev sg (X : Cx) : Sg := ⟨X.K, X.mg⟩
abbrev DE (X : Cx) (Wx : WX) (e : Expr) (m : ME) : Prop := PE X e (tD (wd X) (sg X) Wx m)
abbrev DT (X : Cx) (Wx : WX) (e : Expr) (m : MG Bool) : Prop := PT X e (tDb (wd X) (sg X) Wx m)
abbrev DW (X : Cx) (Wx : WX) (e : Expr) (m : MG Bool) : Prop := PW X e (tDb (wd X) (sg X) Wx m)
abbrev DA (X : Cx) (Wx : WX) (es : List Expr) (m : MG (List D)) : Prop := PA X es (tDs (wd X) (sg X) Wx m)

/-! ### what is reckoned -/
def mVar (i : Nat) : ME := fun env hp => match env[i]? with | some (some d) => .ok d hp | _ => .stuck
def mC (d : D) : ME := fun _ hp => .ok d hp
def mOp (f : D → D → DH → R D) (a b : ME) : ME := fun env hp => (a env hp).bind fun x hp => (b env hp).bind fun y hp => f x y hp
def mUn (f : D → DH → R D) (a : ME) : ME := fun env hp => (a env hp).bind fun x hp => f x hp
def mNil : MG (List D) := fun _ hp => .ok [] hp
def mCons (a : ME) (r : MG (List D)) : MG (List D) := fun env hp => (a env hp).bind fun x hp => (r env hp).bind fun xs hp => .ok (x :: xs) hp
def mTup (r : MG (List D)) : ME := fun env hp => (r env hp).bind fun xs hp => if xs.length ≤ sizeLine then .ok (.tup xs) hp else .stuck
def mLst (r : MG (List D)) : ME := fun env hp => (r env hp).bind fun xs hp => if xs.length ≤ sizeLine then .ok (.ref hp.length) (hp ++ [.lst xs]) else .stuck
def mTest (a : ME) : MG Bool := fun env hp => (a env hp).bind fun x hp => match x with | .bl b => .ok b hp | _ => .stuck
def mAnd (a b : MG Bool) : MG Bool := fun env hp => (a env hp).bind fun c hp => if c = true then b env hp else .ok false hp
def mOr (a b : MG Bool) : MG Bool := fun env hp => (a env hp).bind fun c hp => if c = true then .ok true hp else b env hp
def mNot (a : MG Bool) : MG Bool := fun env hp => (a env hp).bind fun c hp => .ok (!c) hp
def mIf (t : MG Bool) (a b : ME) : ME := fun env hp => (t env hp).bind fun c hp => if c = true then a env hp else b env hp
/-- as values: all but the last are bools -/
def mAndV (a b : ME) : ME := fun env hp => (a env hp).bind fun x hp => match x with | .bl true => b env hp | .bl false => .ok (D.bl false) hp | _ => .stuck
def mOrV (a b : ME) : ME := fun env hp => (a env hp).bind fun x hp => match x with | .bl false => b env hp | .bl true => .ok (D.bl true) hp | _ => .stuck
def mNotV (a : MG Bool) : ME := fun env hp => (a env hp).bind fun c hp => .ok (.bl (!c)) hp
def mChain (f g : D → D → DH → R D) (a b c : ME) : ME := fun env hp => (a env hp).bind fun x hp => (b env hp).bind fun y hp => (f x y hp).bind fun z hp => match z with
  | .bl true => (c env hp).bind fun u hp => g y u hp
  | .bl false => .ok (D.bl false) hp
  | _ => .stuck

/-- a two-place operation on values -/
def OpD (W : Wd) (S : Sg) (f : D → D → DH → R D) (r : R2) : Prop :=
  ∀ (Wx : WX) (σ : L2.St) (x y : V) (d e : D) (H : Hp) (ι : List Addr) (hp : DH) (Q : VK), RH W S H ι hp → RV S H ι d x → RV S H ι e y → OutG W S Wx (RV S) σ H ι (f d e hp) Q → r x y H Q
def UnD (W : Wd) (S : Sg) (f : D → DH → R D) (r : V → Hp → VK → Prop) : Prop :=
  ∀ (Wx : WX) (σ : L2.St) (x : V) (d : D) (H : Hp) (ι : List Addr) (hp : DH) (Q : VK), RH W S H ι hp → RV S H ι d x → OutG W S Wx (RV S) σ H ι (f d hp) Q → r x H Q
def CallD (W : Wd) (S : Sg) (f : List D → DH → R D) (r : List V → Hp → VK → Prop) : Prop :=
  ∀ (Wx : WX) (σ : L2.St) (xs : List V) (ds : List D) (H : Hp) (ι : List Addr) (hp : DH) (Q : VK), RH W S H ι hp → RVs S H ι ds xs → OutG W S Wx (RV S) σ H ι (f ds hp) Q → r xs H Q

section
variable {X : Cx} {Wx : WX} {pos : Pos}
theorem RV.int {S : Sg} {H : Hp} {ι : List Addr} {i : Int} {v : V} (h : RV S H ι (.int i) v) : v = .int i := by simpa [RV] using h
theorem RV.bl {S : Sg} {H : Hp} {ι : List Addr} {i : Bool} {v : V} (h : RV S H ι (.bl i) v) : v = .bl i := by simpa [RV] using h
theorem RV.str {S : Sg} {H : Hp} {ι : List Addr} {i : Str} {v : V} (h : RV S H ι (.str i) v) : v = .str i := by simpa [RV] using h
theorem RV.non {S : Sg} {H : Hp} {ι : List Addr} {v : V} (h : RV S H ι .non v) : v = .non := by simpa [RV] using h
theorem rv_int {S : Sg} {H : Hp} {ι : List Addr} {i : Int} : RV S H ι (.int i) (.int i) := by simp [RV]
theorem rv_bl {S : Sg} {H : Hp} {ι : List Addr} {i : Bool} : RV S H ι (.bl i) (.bl i) := by simp [RV]
theorem rv_str {S : Sg} {H : Hp} {ι : List Addr} {i : Str} : RV S H ι (.str i) (.str i) := by simp [RV]
theorem rv_non {S : Sg} {H : Hp} {ι : List Addr} : RV S H ι .non .non := by simp [RV]

theorem d_vr {i : Nat} {x : Str} {p : Pos} (h : PE X (.Name x p) (tVar i)) : DE X Wx (.Name x p) (mVar i) := PE.imp h fun σ H Q ⟨ι, env, hp, rs, rh, o⟩ => by
  unfold mVar at o
  split at o
  · rename_i d e
    obtain ⟨v, h1, h2⟩ := rs.get i d e
    exact ⟨v, h1, o.ok (Stp.refl _ _) rh h2⟩
  · exact o.elim
/-- the name in slot i -/
theorem d_v (i : Nat) {x : Str} {p : Pos} (hN : X.N[i]? = some x := by rfl) (hv : Vis X.env.scope x := by first | exact Or.inl rfl | exact Or.inr (Or.inl rfl) | exact Or.inr (Or.inr rfl)) (hd : (x == ("__debug__" : Str)) = false := by decide)
    (hcd : (x == ("__classdict__" : Str)) = false := by decide) : DE X Wx (.Name x p) (mVar i) := d_vr (pe_var hN hv hd hcd)
/-- a constant -/
theorem d_k {e : Expr} {v : V} {d : D} (h : PE X e (tC v)) (r : ∀ (H : Hp) (ι : List Addr), RV (sg X) H ι d v) : DE X Wx e (mC d) := PE.imp h fun σ H Q ⟨ι, env, hp, rs, rh, o⟩ => o.ok (Stp.refl _ _) rh (r H ι)
theorem d_int {i j} : DE X Wx (.Constant (.int i) j pos) (mC (.int i)) := d_k pe_int fun _ _ => rv_int
theorem d_bl {i j} : DE X Wx (.Constant (.bool i) j pos) (mC (.bl i)) := d_k pe_bl fun _ _ => rv_bl
theorem d_str {i j} : DE X Wx (.Constant (.str i) j pos) (mC (.str i)) := d_k pe_str fun _ _ => rv_str
theorem d_non {j} : DE X Wx (.Constant .none j pos) (mC .non) := d_k pe_non fun _ _ => rv_non
theorem op_go {f : D → D → DH → R D} {r : R2} {a b : ME} (hf : OpD (wd X) (sg X) f r) {σ : L2.St} {H : Hp} {Q : VK} (h : tD (wd X) (sg X) Wx (mOp f a b) σ H Q) : tOp r (tD (wd X) (sg X) Wx a) (tD (wd X) (sg X) Wx b) σ H Q := by
  refine tG_bind (f := fun env x hp => (b env hp).bind fun y hp => f x y hp) h fun env ι d v H1 hp1 rs rh e o => ?_
  refine tG_in rs rh (OutG.bind o fun d2 v2 H2 ι2 hp2 s2 rh2 e2 o2 => ?_)
  exact hf Wx σ v v2 d d2 H2 ι2 hp2 Q rh2 (RV.mono s2.tm s2.px _ _ e) e2 o2
theorem d_op {op : Operator} {f : D → D → DH → R D} {r : R2} {a b : Expr} {ma mb : ME} (ho : OpR X (binaryOp op) r) (hf : OpD (wd X) (sg X) f r) (ha : DE X Wx a ma) (hb : DE X Wx b mb) : DE X Wx (.BinOp a op b pos) (mOp f ma mb) :=
  PE.imp (pe_op ho ha hb) fun _ _ _ h => op_go hf h
theorem d_cmp {op : CmpOp} {f : D → D → DH → R D} {r : R2} {a b : Expr} {ma mb : ME} (ho : OpR X (compareOp op) r) (hf : OpD (wd X) (sg X) f r) (ha : DE X Wx a ma) (hb : DE X Wx b mb) (hm : behindInMarks op b = false) : DE X Wx (.Compare a [op] [b] pos) (mOp f ma mb) :=
  PE.imp (pe_cmpR ho ha hb hm) fun _ _ _ h => op_go hf h
theorem test_go {m : ME} {σ : L2.St} {H : Hp} {Q : Bool → Hp → Prop} (h : tDb (wd X) (sg X) Wx (mTest m) σ H Q) : tTest (tD (wd X) (sg X) Wx m) σ H Q := by
  refine tG_bind (f := fun env x hp => match x with | .bl b => .ok b hp | _ => .stuck) h fun env ι d v H1 hp1 rs rh e o => ?_
  split at o
  · exact ⟨_, e.bl, o.ok (Stp.refl _ _) rh rfl⟩
  · exact o.elim
theorem d_cmpT {op : CmpOp} {f : D → D → DH → R D} {r : R2} {a b : Expr} {ma mb : ME} (ho : OpR X (compareOp op) r) (hf : OpD (wd X) (sg X) f r) (ha : DE X Wx a ma) (hb : DE X Wx b mb) (hm : behindInMarks op b = false) : DT X Wx (.Compare a [op] [b] pos) (mTest (mOp f ma mb)) := by
  refine PT.imp (pt_cmpR ho ha hb hm) fun σ H Q h => ?_
  have h2 := test_go h
  exact op_go hf h2
theorem d_un {op : UnaryOp} {f : D → DH → R D} {r : V → Hp → VK → Prop} {a : Expr} {ma : ME} (ho : UnR X (unaryOp op) r) (hf : UnD (wd X) (sg X) f r) (ha : DE X Wx a ma) : DE X Wx (.UnaryOp op a pos) (mUn f ma) :=
  PE.imp (pe_un ho ha) fun σ H Q h => tG_bind (f := fun env x hp => f x hp) h fun env ι d v H1 hp1 rs rh e o => hf Wx σ v d H1 ι hp1 Q rh e o
theorem da_nil : DA X Wx [] mNil := PA.imp pa_nil fun σ H Q ⟨ι, env, hp, rs, rh, o⟩ => o.ok (Stp.refl _ _) rh (by simp [RVs])
theorem da_cons {e : Expr} {es : List Expr} {m : ME} {r : MG (List D)} (ha : DE X Wx e m) (hr : DA X Wx es r) (hs : starEach (e :: es) X.env = (false, eval e X.env) :: starEach es X.env := by rfl) : DA X Wx (e :: es) (mCons m r) :=
  PA.imp (pa_cons ha hr hs) fun σ H Q h => tG_bind (f := fun env x hp => (r env hp).bind fun xs hp => .ok (x :: xs) hp) h fun env ι d v H1 hp1 rs rh e o =>
    tG_in rs rh (OutG.bind o fun ds vs H2 ι2 hp2 s2 rh2 e2 o2 => o2.ok (Stp.refl _ _) rh2 (by simp only [RVs]; exact ⟨v, vs, rfl, RV.mono s2.tm s2.px _ _ e, e2⟩))
theorem d_tup {x1} {es : List Expr} {r : MG (List D)} (h : DA X Wx es r) : DE X Wx (.Tuple es x1 pos) (mTup r) :=
  PE.imp (pe_tup h) fun σ H Q h => tG_bind (f := fun env xs hp => if xs.length ≤ sizeLine then .ok (D.tup xs) hp else .stuck) h fun env ι ds vs H1 hp1 rs rh e o => by
    split at o
    · rename_i hl
      refine ⟨by rw [e.length]; exact hl, fun p np => o.ok (Stp.upd np) (rh.newt np) ?_⟩
      have s := Stp.upd (ι := ι) (o := .tup vs) np
      simp only [RV]
      exact ⟨p, vs, rfl, SqT.of upd_same, RVs.mono s.tm s.px _ _ e⟩
    · exact o.elim
theorem alloc_go {W : Wd} {S : Sg} {σ : L2.St} {H : Hp} {ι : List Addr} {hp : DH} {o : DO} {Q : VK} {p : Addr} {u : HO} (rh : RH W S H ι hp) (h : OutG W S Wx (RV S) σ H ι (.ok (.ref hp.length) (hp ++ [o])) Q) (np : H p = none)
    (r : RO W S (upd H p u) (ι ++ [p]) p o) : Q (.ref p) (upd H p u) := by
  have s : Stp H ι (upd H p u) (ι ++ [p]) := (Stp.upd np).add np
  refine h.ok s (rh.alloc np r) ?_
  simp only [RV]
  exact ⟨p, by rw [← rh.len]; simp, rfl⟩
theorem ro_lst {W : Wd} {S : Sg} {H : Hp} {ι : List Addr} {ds : List D} {vs : List V} {p : Addr} (np : H p = none) (e : RVs S H ι ds vs) : RO W S (upd H p (.lst vs)) (ι ++ [p]) p (.lst ds) := by
  have s : Stp H ι (upd H p (.lst vs)) (ι ++ [p]) := (Stp.upd np).add np
  exact ⟨vs, upd_same, RVs.mono s.tm s.px _ _ e⟩
theorem d_lst {es : List Expr} {r : MG (List D)} (h : DA X Wx es r) : DE X Wx (.List es pos) (mLst r) :=
  PE.imp (pe_lst h) fun σ H Q h => tG_bind (f := fun env xs hp => if xs.length ≤ sizeLine then .ok (D.ref hp.length) (hp ++ [DO.lst xs]) else .stuck) h fun env ι ds vs H1 hp1 rs rh e o => by
    split at o
    · rename_i hl
      exact ⟨by rw [e.length]; exact hl, fun p np => alloc_go rh o np (ro_lst np e)⟩
    · exact o.elim

/-! ### tests -/
theorem dw_and1 {a : Expr} {m : MG Bool} (h : DT X Wx a m) : DW X Wx (.BoolOp .And [a] pos) m := pw_and1 h
theorem dw_or1 {a : Expr} {m : MG Bool} (h : DT X Wx a m) : DW X Wx (.BoolOp .Or [a] pos) m := pw_or1 h
theorem dw_and {a b : Expr} {rest : List Expr} {m n : MG Bool} (ha : DT X Wx a m) (hb : DW X Wx (.BoolOp .And (b :: rest) pos) n) : DW X Wx (.BoolOp .And (a :: b :: rest) pos) (mAnd m n) :=
  PW.imp (pw_and ha hb) fun σ H Q h => tG_bind (f := fun env c hp => if c = true then n env hp else .ok false hp) h fun env ι c v H1 hp1 rs rh e o => by
    subst e
    cases c with
    | true => exact tG_in rs rh o
    | false => exact o.ok (Stp.refl _ _) rh rfl
theorem dw_or {a b : Expr} {rest : List Expr} {m n : MG Bool} (ha : DT X Wx a m) (hb : DW X Wx (.BoolOp .Or (b :: rest) pos) n) : DW X Wx (.BoolOp .Or (a :: b :: rest) pos) (mOr m n) :=
  PW.imp (pw_or ha hb) fun σ H Q h => tG_bind (f := fun env c hp => if c = true then .ok true hp else n env hp) h fun env ι c v H1 hp1 rs rh e o => by
    subst e
    cases c with
    | true => exact o.ok (Stp.refl _ _) rh rfl
    | false => exact tG_in rs rh o
theorem d_wt {e : Expr} {m : MG Bool} (h : DW X Wx e m) : DT X Wx e m := h.pt
theorem dt_not {a : Expr} {m : MG Bool} (ha : DT X Wx a m) : DT X Wx (.UnaryOp .Not a pos) (mNot m) :=
  PT.imp (pt_not ha) fun σ H Q h => tG_bind (f := fun env c hp => .ok (!c) hp) h fun env ι c v H1 hp1 rs rh e o => by
    subst e
    exact o.ok (Stp.refl _ _) rh rfl
theorem d_if {c a b : Expr} {t : MG Bool} {ma mb : ME} (hc : DT X Wx c t) (ha : DE X Wx a ma) (hb : DE X Wx b mb) : DE X Wx (.IfExp c a b pos) (mIf t ma mb) :=
  PE.imp (pe_ifExp hc ha hb) fun σ H Q h => tG_bind (f := fun env c hp => if c = true then ma env hp else mb env hp) h fun env ι c v H1 hp1 rs rh e o => by
    subst e
    cases c with
    | true => exact tG_in rs rh o
    | false => exact tG_in rs rh o
theorem d_one {op} {a : Expr} {m : ME} (h : DE X Wx a m) : DE X Wx (.BoolOp op [a] pos) m := pe_one h
theorem d_and {a b : Expr} {rest : List Expr} {ma mb : ME} (ha : DE X Wx a ma) (hb : DE X Wx (.BoolOp .And (b :: rest) pos) mb) : DE X Wx (.BoolOp .And (a :: b :: rest) pos) (mAndV ma mb) :=
  PE.imp (pe_and ha hb) fun σ H Q h => tG_bind (f := fun env x hp => match x with | .bl true => mb env hp | .bl false => .ok (D.bl false) hp | _ => .stuck) h fun env ι d v H1 hp1 rs rh e o => by
    split at o
    · exact ⟨true, e.bl, tG_in rs rh o⟩
    · exact ⟨false, e.bl, o.ok (Stp.refl _ _) rh rv_bl⟩
    · exact o.elim
theorem d_or {a b : Expr} {rest : List Expr} {ma mb : ME} (ha : DE X Wx a ma) (hb : DE X Wx (.BoolOp .Or (b :: rest) pos) mb) : DE X Wx (.BoolOp .Or (a :: b :: rest) pos) (mOrV ma mb) :=
  PE.imp (pe_or ha hb) fun σ H Q h => tG_bind (f := fun env x hp => match x with | .bl false => mb env hp | .bl true => .ok (D.bl true) hp | _ => .stuck) h fun env ι d v H1 hp1 rs rh e o => by
    split at o
    · exact ⟨false, e.bl, tG_in rs rh o⟩
    · exact ⟨true, e.bl, o.ok (Stp.refl _ _) rh rv_bl⟩
    · exact o.elim
theorem d_chain {op op' : CmpOp} {f g : D → D → DH → R D} {r r' : R2} {a b c : Expr} {ma mb mc : ME} (ho : OpR X (compareOp op) r) (hf : OpD (wd X) (sg X) f r) (ho' : OpR X (compareOp op') r') (hg : OpD (wd X) (sg X) g r') (ha : DE X Wx a ma) (hb : DE X Wx b mb) (hc : DE X Wx c mc)
    (hp : PE X (.Compare a [op, op'] [b, c] pos) (tChain r r' (tD (wd X) (sg X) Wx ma) (tD (wd X) (sg X) Wx mb) (tD (wd X) (sg X) Wx mc))) : DE X Wx (.Compare a [op, op'] [b, c] pos) (mChain f g ma mb mc) :=
  PE.imp hp fun σ H Q h => tG_bind (f := fun env x hp => (mb env hp).bind fun y hp => (f x y hp).bind fun z hp => match z with
      | .bl true => (mc env hp).bind fun u hp => g y u hp
      | .bl false => .ok (D.bl false) hp
      | _ => .stuck) h fun env ι d v H1 hp1 rs rh e o => tG_in rs rh (OutG.bind o fun d2 v2 H2 ι2 hp2 s2 rh2 e2 o2 =>
    hf Wx σ v v2 d d2 H2 ι2 hp2 _ rh2 (RV.mono s2.tm s2.px _ _ e) e2 (OutG.bind o2 fun d3 v3 H3 ι3 hp3 s3 rh3 e3 o3 => by
      split at o3
      · refine ⟨true, e3.bl, ?_⟩
        rw [if_pos rfl]
        refine tG_in ((rs.mono s2).mono s3) rh3 (OutG.bind o3 fun d4 v4 H4 ι4 hp4 s4 rh4 e4 o4 => ?_)
        exact hg Wx σ v2 v4 d2 d4 H4 ι4 hp4 _ rh4 (RV.mono s4.tm s4.px _ _ (RV.mono s3.tm s3.px _ _ e2)) e4 o4
      · refine ⟨false, e3.bl, ?_⟩
        rw [if_neg Bool.false_ne_true]
        exact o3.ok (Stp.refl _ _) rh3 rv_bl
      · exact o3.elim))
end
end DL
namespace DL
open PySem PySem.Spec PyProof.Rows L2

inductive RSt where
  | nx (env : En) (h : DH) | rt (d : D) (h : DH) | bk (env : En) (h : DH) | ct (env : En) (h : DH) | exc (env : En) (x : DX) (h : DH) | stuck
abbrev MS := En → DH → RSt
def OutS (W : Wd) (S : Sg) (Wx : WX) (H : Hp) (ι : List Addr) (r : RSt) (E : Ends) : Prop :=
  match r with
  | .nx env hp => ∀ σ' H' ι', Stp H ι H' ι' → RH W S H' ι' hp → RS S H' ι' env σ' → E.nx σ' H'
  | .rt d hp => ∀ v H' ι', Stp H ι H' ι' → RH W S H' ι' hp → RV S H' ι' d v → E.rt v H'
  | .bk env hp => ∀ σ' H' ι', Stp H ι H' ι' → RH W S H' ι' hp → RS S H' ι' env σ' → E.bk σ' H'
  | .ct env hp => ∀ σ' H' ι', Stp H ι H' ι' → RH W S H' ι' hp → RS S H' ι' env σ' → E.ct σ' H'
  | .exc env x hp => ∀ cls d σ' H' ι', Stp H ι H' ι' → RH W S H' ι' hp → RS S H' ι' env σ' → RX S H' ι' x cls d → Wx cls d σ' H'
  | .stuck => False
def tS (W : Wd) (S : Sg) (Wx : WX) (m : MS) : TS := fun E σ H => ∃ ι env hp, RS S H ι env σ ∧ RH W S H ι hp ∧ OutS W S Wx H ι (m env hp) E
abbrev DSt (X : Cx) (Wx : WX) (s : Stmt) (m : MS) : Prop := PS X s (tS (wd X) (sg X) Wx m)
abbrev DSs (X : Cx) (Wx : WX) (s : List Stmt) (m : MS) : Prop := PSs X s (tS (wd X) (sg X) Wx m)
/-- an expression's result taken up by a statement -/
def R.st {α : Type} (r : R α) (env : En) (k : α → DH → RSt) : RSt := match r with
  | .ok a h => k a h
  | .exc x h => .exc env x h
  | .stuck => .stuck
@[simp] theorem R.st_ok {α : Type} {a : α} {h : DH} {env : En} {k : α → DH → RSt} : (R.ok a h).st env k = k a h := rfl
@[simp] theorem R.st_exc {α : Type} {x : DX} {h : DH} {env : En} {k : α → DH → RSt} : (R.exc x h : R α).st env k = .exc env x h := rfl
@[simp] theorem R.st_stuck {α : Type} {env : En} {k : α → DH → RSt} : (R.stuck : R α).st env k = .stuck := rfl
def RSt.th (r : RSt) (k : En → DH → RSt) : RSt := match r with
  | .nx env h => k env h
  | r => r
@[simp] theorem RSt.th_nx {env : En} {h : DH} {k : En → DH → RSt} : (RSt.nx env h).th k = k env h := rfl
@[simp] theorem RSt.th_rt {d : D} {h : DH} {k : En → DH → RSt} : (RSt.rt d h).th k = .rt d h := rfl
@[simp] theorem RSt.th_bk {env : En} {h : DH} {k : En → DH → RSt} : (RSt.bk env h).th k = .bk env h := rfl
@[simp] theorem RSt.th_ct {env : En} {h : DH} {k : En → DH → RSt} : (RSt.ct env h).th k = .ct env h := rfl
@[simp] theorem RSt.th_exc {env : En} {x : DX} {h : DH} {k : En → DH → RSt} : (RSt.exc env x h).th k = .exc env x h := rfl
@[simp] theorem RSt.th_stuck {k : En → DH → RSt} : (RSt.stuck).th k = .stuck := rfl

section
variable {W : Wd} {S : Sg} {Wx : WX} {α β : Type} {rel : Hp → List Addr → α → β → Prop} {σ : L2.St} {H H' : Hp} {ι ι' : List Addr} {hp hp' : DH} {env : En} {E : Ends}
theorem OutS.mono {r : RSt} (s : Stp H ι H' ι') (h : OutS W S Wx H ι r E) : OutS W S Wx H' ι' r E := by
  cases r with
  | nx env hp => exact fun v H2 ι2 s2 => h v H2 ι2 (s.trans s2)
  | rt d hp => exact fun v H2 ι2 s2 => h v H2 ι2 (s.trans s2)
  | bk env hp => exact fun v H2 ι2 s2 => h v H2 ι2 (s.trans s2)
  | ct env hp => exact fun v H2 ι2 s2 => h v H2 ι2 (s.trans s2)
  | exc env x hp => exact fun c d v H2 ι2 s2 => h c d v H2 ι2 (s.trans s2)
  | stuck => exact h
theorem OutS.st {r : R α} {k : α → DH → RSt} (rs : RS S H ι env σ) (h : OutS W S Wx H ι (r.st env k) E) {K : β → Hp → Prop}
    (hk : ∀ a v H1 ι1 hp1, Stp H ι H1 ι1 → RH W S H1 ι1 hp1 → rel H1 ι1 a v → OutS W S Wx H1 ι1 (k a hp1) E → K v H1) : OutG W S Wx rel σ H ι r K := by
  cases r with
  | ok a hp => exact fun v H1 ι1 s r e => hk a v H1 ι1 hp s r e (OutS.mono s h)
  | exc x hp => exact fun c d H1 ι1 s r e => h c d σ H1 ι1 s r (rs.mono s) e
  | stuck => exact h
theorem tS_in {m : MS} (rs : RS S H ι env σ) (rh : RH W S H ι hp) (h : OutS W S Wx H ι (m env hp) E) : tS W S Wx m E σ H := ⟨ι, env, hp, rs, rh, h⟩
theorem tS_st {m : MG α} {k : En → α → DH → RSt} (h : tS W S Wx (fun env hp => (m env hp).st env (k env)) E σ H) {K : β → Hp → Prop}
    (hk : ∀ env ι a v H1 hp1, RS S H1 ι env σ → RH W S H1 ι hp1 → rel H1 ι a v → OutS W S Wx H1 ι (k env a hp1) E → K v H1) : tG W S Wx rel m σ H K := by
  obtain ⟨ι, env, hp, rs, rh, o⟩ := h
  exact ⟨ι, env, hp, rs, rh, OutS.st rs o fun a v H1 ι1 hp1 s r e o1 => hk env ι1 a v H1 hp1 (rs.mono s) r e o1⟩
theorem OutS.th {r : RSt} {k : MS} (h : OutS W S Wx H ι (r.th k) E) : OutS W S Wx H ι r { E with nx := tS W S Wx k E } := by
  cases r with
  | nx env hp => exact fun σ' H1 ι1 s r e => ⟨ι1, env, hp, e, r, OutS.mono s h⟩
  | rt d hp => exact h
  | bk env hp => exact h
  | ct env hp => exact h
  | exc env x hp => exact h
  | stuck => exact h
end

/-! ### statements -/
def mNext : MS := fun env hp => .nx env hp
def mSeq (a b : MS) : MS := fun env hp => (a env hp).th b
def mBreak : MS := fun env hp => .bk env hp
def mCont : MS := fun env hp => .ct env hp
def mExpr (a : ME) : MS := fun env hp => (a env hp).st env fun _ hp => .nx env hp
def mRet (a : ME) : MS := fun env hp => (a env hp).st env fun d hp => .rt d hp
def mRetN : MS := fun _ hp => .rt .non hp
def mIfS (c : MG Bool) (a b : MS) : MS := fun env hp => (c env hp).st env fun x hp => if x = true then a env hp else b env hp
section
variable {X : Cx} {Wx : WX} {pos : Pos} {st : Stmt} {rest : List Stmt} {m n : MS} {e : Expr} {a : ME}
theorem ds_nil : DSs X Wx [] mNext := PSs.imp pss_nil fun E σ H ⟨ι, env, hp, rs, rh, o⟩ => o σ H ι (Stp.refl _ _) rh rs
theorem ds_cons (h1 : DSt X Wx st m) (h2 : DSs X Wx rest n) : DSs X Wx (st :: rest) (mSeq m n) :=
  PSs.imp (pss_cons h1 h2) fun E σ H ⟨ι, env, hp, rs, rh, o⟩ => ⟨ι, env, hp, rs, rh, OutS.th o⟩
theorem ds_last (h1 : DSt X Wx st m) : DSs X Wx [st] m := pss_one h1
theorem ds_pass : DSt X Wx (.Pass pos) mNext := PS.imp ps_pass fun E σ H ⟨ι, env, hp, rs, rh, o⟩ => o σ H ι (Stp.refl _ _) rh rs
theorem ds_doc {x j p} : DSt X Wx (.Expr (.Constant (.str x) j p) pos) mNext := PS.imp ps_doc fun E σ H ⟨ι, env, hp, rs, rh, o⟩ => o σ H ι (Stp.refl _ _) rh rs
theorem ds_break : DSt X Wx (.Break pos) mBreak := PS.imp ps_break fun E σ H ⟨ι, env, hp, rs, rh, o⟩ => o σ H ι (Stp.refl _ _) rh rs
theorem ds_cont : DSt X Wx (.Continue pos) mCont := PS.imp ps_continue fun E σ H ⟨ι, env, hp, rs, rh, o⟩ => o σ H ι (Stp.refl _ _) rh rs
theorem ds_expr (h : DE X Wx e a) (hs : swapsWith e none pos.line X.env = pure false := by rfl) : DSt X Wx (.Expr e pos) (mExpr a) :=
  PS.imp (ps_expr h hs) fun E σ H h => tS_st (k := fun env _ hp => .nx env hp) h fun env ι d v H1 hp1 rs rh e o => o σ H1 ι (Stp.refl _ _) rh rs
theorem ds_ret (h : DE X Wx e a) : DSt X Wx (.Return (some e) pos) (mRet a) :=
  PS.imp (ps_ret h) fun E σ H h => tS_st (k := fun env d hp => .rt d hp) h fun env ι d v H1 hp1 rs rh e o => o v H1 ι (Stp.refl _ _) rh e
theorem ds_retN : DSt X Wx (.Return none pos) mRetN := PS.imp ps_retN fun E σ H ⟨ι, env, hp, rs, rh, o⟩ => o .non H ι (Stp.refl _ _) rh rv_non
theorem ds_if {c : Expr} {t : MG Bool} {xs ys : List Stmt} (hc : DT X Wx c t) (ha : DSs X Wx xs m) (hb : DSs X Wx ys n) : DSt X Wx (.If c xs ys pos) (mIfS t m n) :=
  PS.imp (ps_if hc ha hb) fun E σ H h => tS_st (k := fun env x hp => if x = true then m env hp else n env hp) h fun env ι d v H1 hp1 rs rh e o => by
    subst e
    cases d with
    | true => exact tS_in rs rh o
    | false => exact tS_in rs rh o
end

/-! ### targets -/
abbrev MT := D → En → DH → R En
def tT (W : Wd) (S : Sg) (Wx : WX) (g : MT) : TG := fun v σ H Q => ∃ ι env hp d, RS S H ι env σ ∧ RH W S H ι hp ∧ RV S H ι d v ∧ OutG W S Wx (RS S) σ H ι (g d env hp) Q
abbrev DG (X : Cx) (Wx : WX) (e : Expr) (g : MT) : Prop := PG X e (tT (wd X) (sg X) Wx g)
def gN (i : Nat) : MT := fun d env hp => .ok (env.set i (some d)) hp
abbrev MTs := List D → En → DH → R En
def gsNil : MTs := fun ds env hp => match ds with | [] => .ok env hp | _ => .stuck
def gsCons (g : MT) (r : MTs) : MTs := fun ds env hp => match ds with
  | d :: ds => (g d env hp).bind fun env hp => r ds env hp
  | [] => .stuck
/-- targets of plain names only -/
def gsNames : List Nat → List D → En → Option En
  | [], [], env => some env
  | i :: is, d :: ds, env => gsNames is ds (env.set i (some d))
  | _, _, _ => none
def gTp (is : List Nat) : MT := fun d env hp => match d with
  | .tup ds => match gsNames is ds env with | some env => .ok env hp | none => .stuck
  | _ => .stuck
def gNames : List Nat → TGs
  | [] => gNil
  | i :: is => gCons (gName i) (gNames is)
theorem gNames_go {S : Sg} {H : Hp} {ι : List Addr} : ∀ {is : List Nat} {ds : List D} {vs : List V} {env env' : En} {σ : L2.St} {Q : L2.St → Hp → Prop}, RS S H ι env σ → RVs S H ι ds vs → gsNames is ds env = some env' → (∀ σ', RS S H ι env' σ' → Q σ' H) → gNames is vs σ H Q
  | [], [], vs, env, env', σ, Q, rs, rv, e, q => by
    simp only [RVs] at rv
    cases e
    exact ⟨rv, q σ rs⟩
  | [], _ :: _, vs, env, env', σ, Q, rs, rv, e, q => by cases e
  | _ :: _, [], vs, env, env', σ, Q, rs, rv, e, q => by cases e
  | i :: is, d :: ds, vs, env, env', σ, Q, rs, rv, e, q => by
    simp only [RVs] at rv
    obtain ⟨v, r, rfl, h1, h2⟩ := rv
    exact ⟨v, r, rfl, gNames_go (rs.set h1) h2 e q⟩
theorem gsNames_len : ∀ {is : List Nat} {ds : List D} {env env' : En}, gsNames is ds env = some env' → ds.length = is.length
  | [], [], _, _, _ => rfl
  | [], _ :: _, _, _, e => by cases e
  | _ :: _, [], _, _, e => by cases e
  | i :: is, d :: ds, env, env', e => by simp [gsNames_len (is := is) e]
/-- a target whose own reading is refined by g, for all heaps -/
structure GR (W : Wd) (S : Sg) (g : TG) (m : MT) : Prop where
  go : ∀ (Wx : WX) (v : V) (d : D) (σ : L2.St) (H : Hp) (ι : List Addr) (env : En) (hp : DH) (Q : L2.St → Hp → Prop), RS S H ι env σ → RH W S H ι hp → RV S H ι d v → OutG W S Wx (RS S) σ H ι (m d env hp) Q → g v σ H Q
theorem GR.dg {X : Cx} {Wx : WX} {e : Expr} {g : TG} {m : MT} (h : PG X e g) (r : GR (wd X) (sg X) g m) : DG X Wx e m :=
  ⟨fun pins s σ H v u Q I rv ⟨ι, env, hp, d, rs, rh, e, o⟩ => h.run pins s σ H v u Q I rv (r.go Wx v d σ H ι env hp Q rs rh e o)⟩
theorem gr_n {W : Wd} {S : Sg} (i : Nat) : GR W S (gName i) (gN i) := ⟨fun Wx v d σ H ι env hp Q rs rh e o => o.ok (Stp.refl _ _) rh (rs.set e)⟩
theorem gr_t {W : Wd} {S : Sg} (is : List Nat) : GR W S (gTup S.K is.length (gNames is)) (gTp is) := ⟨fun Wx v d σ H ι env hp Q rs rh e o => by
  unfold gTp at o
  split at o
  · split at o
    · rename_i ds env' hg
      simp only [RV] at e
      obtain ⟨a, vs, rfl, q, r⟩ := e
      exact ⟨a, vs, rfl, q, by rw [r.length, gsNames_len hg], gNames_go rs r hg fun σ' rs' => o.ok (Stp.refl _ _) rh rs'⟩
    · exact o.elim
  · exact o.elim⟩
/-- it stores in the slots vs alone -/
def Keeps (vs : List Nat) (g : TG) : Prop := ∀ (v : V) (σ : L2.St) (H : Hp) (Q : L2.St → Hp → Prop), g v σ H Q → g v σ H fun σ2 H2 => L2.wipe σ2 vs = L2.wipe σ vs ∧ Q σ2 H2
theorem wipe_set {σ : L2.St} {i : Nat} {x : Option V} : ∀ {vs : List Nat}, i ∈ vs → L2.wipe (σ.set i x) vs = L2.wipe σ vs
  | v :: vs, h => by
    unfold L2.wipe
    by_cases hv : i ∈ vs
    · rw [wipe_set hv]
    · have e : i = v := by rcases List.mem_cons.mp h with e | e; exact e; exact absurd e hv
      subst e
      have : ∀ (ws : List Nat), i ∉ ws → L2.wipe (σ.set i x) ws = (L2.wipe σ ws).set i x := by
        intro ws
        induction ws with
        | nil => intro _; rfl
        | cons w ws ih =>
          intro hw
          have h1 : i ≠ w := fun e => hw (by simp [e])
          have h2 : i ∉ ws := fun e => hw (by simp [e])
          unfold L2.wipe
          rw [ih h2, List.set_comm _ _ h1]
      rw [this vs hv, List.set_set]
theorem keeps_n {vs : List Nat} {i : Nat} (h : i ∈ vs) : Keeps vs (gName i) := fun v σ H Q q => ⟨wipe_set h, q⟩
theorem keeps_ns : ∀ {is vs : List Nat}, (∀ i ∈ is, i ∈ vs) → ∀ (xs : List V) (σ : L2.St) (H : Hp) (Q : L2.St → Hp → Prop), gNames is xs σ H Q → gNames is xs σ H fun σ2 H2 => L2.wipe σ2 vs = L2.wipe σ vs ∧ Q σ2 H2
  | [], vs, h, xs, σ, H, Q, q => ⟨q.1, rfl, q.2⟩
  | i :: is, vs, h, xs, σ, H, Q, q => by
    obtain ⟨v, r, e, q⟩ := q
    refine ⟨v, r, e, ?_⟩
    have := keeps_ns (is := is) (vs := vs) (fun j hj => h j (by simp [hj])) r _ H Q q
    rw [wipe_set (h i (by simp))] at this
    exact this
theorem keeps_t {vs is : List Nat} {K : PySem.W.Frag} {n : Nat} (h : ∀ i ∈ is, i ∈ vs) : Keeps vs (gTup K n (gNames is)) := fun v σ H Q ⟨a, xs, e, h1, h2, q⟩ => ⟨a, xs, e, h1, h2, keeps_ns h xs σ H Q q⟩

/-! ### x = e; targets = e -/
def mSet (i : Nat) (a : ME) : MS := fun env hp => (a env hp).st env fun d hp => .nx (env.set i (some d)) hp
def mAsg (a : ME) (g : MT) : MS := fun env hp => (a env hp).st env fun d hp => (g d env hp).st env fun env hp => .nx env hp
section
variable {X : Cx} {Wx : WX} {pos : Pos} {e tg : Expr} {a : ME} {g : MT}
theorem ds_set {i : Nat} {x : Str} {p : Pos} (hN : X.N.Nodup) (hi : X.N[i]? = some x) (hx : Loc X.env.scope x) (he : DE X Wx e a) (hs : swapsWith e (some (.Name x p)) pos.line X.env = pure false := by rfl) (hf : X.fn x = true ∨ X.env.scope.names.lookup x = some .local := by first | exact .inl rfl | exact .inr rfl | assumption) :
    DSt X Wx (.Assign [.Name x p] e pos) (mSet i a) :=
  PS.imp (ps_set hN hi hx he hs hf) fun E σ H h => tS_st (k := fun env d hp => .nx (env.set i (some d)) hp) h fun env ι d v H1 hp1 rs rh e o => o _ H1 ι (Stp.refl _ _) rh (rs.set e)
theorem ds_asg (he : DE X Wx e a) (hg : DG X Wx tg g) (hs : swapsWithSole [tg] e pos.line X.env = pure false := by rfl) (hw : swappedStores [tg] e X.env = pure none := by rfl)
    (h1 : (assignEach [tg] X.env).map (·.2) = [assign tg X.env] := by rfl) : DSt X Wx (.Assign [tg] e pos) (mAsg a g) :=
  PS.imp (ps_asg he hg hs hw h1) fun E σ H h => tS_st (k := fun env d hp => (g d env hp).st env fun env hp => .nx env hp) h fun env ι d v H1 hp1 rs rh e o =>
    ⟨ι, env, hp1, d, rs, rh, e, OutS.st (rel := RS (sg X)) rs o fun env' σ' H2 ι2 hp2 s2 rh2 e2 o2 => o2 σ' H2 ι2 (Stp.refl _ _) rh2 e2⟩
/-- a, b = e1, e2 with plain names -/
def mPar (i j : Nat) (r : MG (List D)) : MS := fun env hp => (r env hp).st env fun ds hp => match ds with
  | [x, y] => .nx ((env.set i (some x)).set j (some y)) hp
  | _ => .stuck
theorem ds_par {i j : Nat} {x y : Str} {a b : Expr} {ta : MG (List D)} {px py pt : Pos} {kt k2 pt2} (hc : X.calm = true) (hN : X.N.Nodup) (hi : X.N[i]? = some x) (hj : X.N[j]? = some y) (hij : i ≠ j)
    (hx : X.env.scope.names.lookup x = some .local) (hy : X.env.scope.names.lookup y = some .local) (ha : DA X Wx [a, b] ta)
    (hw : swappedStores [.Tuple [.Name x px, .Name y py] kt pt] (.Tuple [a, b] k2 pt2) X.env = pure (some [x, y]))
    (hs : swapsWithSole [.Tuple [.Name x px, .Name y py] kt pt] (.Tuple [a, b] k2 pt2) pos.line X.env = pure false := by rfl) :
    DSt X Wx (.Assign [.Tuple [.Name x px, .Name y py] kt pt] (.Tuple [a, b] k2 pt2) pos) (mPar i j ta) :=
  PS.imp (ps_par hc hN hi hj hij hx hy ha hw hs) fun E σ H h => by
    unfold mPar at h
    refine tS_st h fun env ι d v H1 hp1 rs rh e o => ?_
    split at o
    · simp only [RVs] at e
      obtain ⟨v1, r1, rfl, e1, v2, r2, rfl, e2, rfl⟩ := e
      exact ⟨v1, v2, rfl, o _ H1 ι (Stp.refl _ _) rh ((rs.set e1).set e2)⟩
    · exact o.elim
end

/-! ### while -/
def mWhile (c : MG Bool) (b : MS) : Nat → MS
  | 0 => fun _ _ => .stuck
  | n + 1 => fun env hp => (c env hp).st env fun x hp => if x = true then
      match b env hp with
      | .nx env hp => mWhile c b n env hp
      | .ct env hp => mWhile c b n env hp
      | .bk env hp => .nx env hp
      | r => r
    else .nx env hp
theorem ds_while {X : Cx} {Wx : WX} {pos : Pos} {c : Expr} {body : List Stmt} {mc : MG Bool} {mb : MS} (n : Nat) (hp : PassesOwn (model X.prog X.w) X.A X.env X.xe) (hc : DT X Wx c mc) (hb : DSs X Wx body mb) : DSt X Wx (.While c body [] pos) (mWhile mc mb n) :=
  PS.imp (ps_while hp hc hb) fun E σ H h => by
    refine ⟨fun k σ H => tS (wd X) (sg X) Wx (mWhile mc mb k) E σ H, ⟨n, h⟩, fun k σ H hw => ?_⟩
    cases k with
    | zero => obtain ⟨_, _, _, _, _, o⟩ := hw; exact o.elim
    | succ k =>
      unfold mWhile at hw
      refine tS_st hw fun env ι x v H1 hp1 rs rh e o => ?_
      subst e
      cases x with
      | true =>
        rw [if_pos rfl] at o ⊢
        refine ⟨fun σ' H' => tS (wd X) (sg X) Wx (mWhile mc mb k) E σ' H', fun σ' H' q => ⟨k, Nat.lt_succ_self k, q⟩, tS_in rs rh ?_⟩
        generalize hr : mb env hp1 = r at o ⊢
        cases r with
        | nx env' hp' => exact fun σ' H' ι' s r e => tS_in e r (OutS.mono s o)
        | ct env' hp' => exact fun σ' H' ι' s r e => tS_in e r (OutS.mono s o)
        | bk env' hp' => exact o
        | rt d hp' => exact o
        | exc env' x hp' => exact o
        | stuck => exact o
      | false =>
        rw [if_neg Bool.false_ne_true] at o ⊢
        exact o σ H1 ι (Stp.refl _ _) rh rs

/-! ### what is walked -/
inductive Src where
  | lst (n : Nat) | its (ds : List D) | rng (lo : Int) (n : Nat)
def Src.at (src : Src) (hp : DH) (i : Nat) : Option (Option D) := match src with
  | .lst n => match hp[n]? with | some (.lst xs) => some xs[i]? | _ => none
  | .its ds => some ds[i]?
  | .rng lo n => some (if i < n then some (.int (lo + (i : Int))) else none)
def Src.size (src : Src) (hp : DH) : Nat := match src with
  | .lst n => match hp[n]? with | some (.lst xs) => xs.length | _ => 0
  | .its ds => ds.length
  | .rng _ n => n
def SrcIt (W : Wd) (S : Sg) (H : Hp) (ι : List Addr) (src : Src) (J : It) : Prop := ∀ H' ι' hp', Stp H ι H' ι' → RH W S H' ι' hp' → ∀ i : Nat, match src.at hp' i with
  | none => True
  | some none => J.stop i H'
  | some (some d) => J.go i H' ∧ ∀ x H2, J.yld i H' x H2 → Stp H' ι' H2 ι' ∧ RH W S H2 ι' hp' ∧ RV S H2 ι' d x
abbrev DI (X : Cx) (Wx : WX) (tg iter : Expr) (m : MG Src) : Prop := PI X tg iter (tG (wd X) (sg X) Wx (SrcIt (wd X) (sg X)) m)
/-- a list's, a tuple's, the script's items -/
def mSrc (a : ME) : MG Src := fun env hp => (a env hp).bind fun d hp => match d with
  | .ref n => match hp[n]? with | some (.lst _) => .ok (.lst n) hp | _ => .stuck
  | .scr ds => .ok (.its ds) hp
  | _ => .stuck
def mSrcT (a : ME) : MG Src := fun env hp => (a env hp).bind fun d hp => match d with
  | .tup ds => .ok (.its ds) hp
  | _ => .stuck
def mRng1 (r : MG (List D)) : MG Src := fun env hp => (r env hp).bind fun ds hp => match ds with
  | [.int j] => if -(2 ^ 62) ≤ j ∧ j < 2 ^ 62 then .ok (.rng 0 j.toNat) hp else .stuck
  | _ => .stuck
def mRng2 (r : MG (List D)) : MG Src := fun env hp => (r env hp).bind fun ds hp => match ds with
  | [.int i, .int j] => if -(2 ^ 62) ≤ i ∧ i < 2 ^ 62 ∧ -(2 ^ 62) ≤ j ∧ j < 2 ^ 62 then .ok (.rng i (j - i).toNat) hp else .stuck
  | _ => .stuck
theorem PI.imp {X : Cx} {tg e : Expr} {t t' : TI} (h : PI X tg e t) (i : ∀ σ H R, t' σ H R → t σ H R) : PI X tg e t' := ⟨fun pins s σ H R I q => h.run pins s σ H R I (i σ H R q)⟩
section
variable {X : Cx} {Wx : WX} {tg iter : Expr} {a : ME}
theorem RV.ref {S : Sg} {H : Hp} {ι : List Addr} {n : Nat} {v : V} (h : RV S H ι (.ref n) v) : ∃ a, ι[n]? = some a ∧ v = .ref a := by simpa [RV] using h
theorem RV.tup {S : Sg} {H : Hp} {ι : List Addr} {ds : List D} {v : V} (h : RV S H ι (.tup ds) v) : ∃ a vs, v = .ref a ∧ SqT S.K H a vs ∧ RVs S H ι ds vs := by simpa [RV] using h
theorem RV.scr {S : Sg} {H : Hp} {ι : List Addr} {ds : List D} {v : V} (h : RV S H ι (.scr ds) v) : ∃ a vs, v = .ref a ∧ SqF S.K H a vs ∧ RVs S H ι ds vs := by simpa [RV] using h
theorem RH.lst {W : Wd} {S : Sg} {H : Hp} {ι : List Addr} {hp : DH} (rh : RH W S H ι hp) {n : Nat} {a : Addr} {ds : List D} (e : ι[n]? = some a) (h : hp[n]? = some (.lst ds)) : ∃ vs, H a = some (.lst vs) ∧ RVs S H ι ds vs := rh.obj n a _ e h
theorem srcIt_lst {W : Wd} {S : Sg} {H : Hp} {ι : List Addr} {n : Nat} {a : Addr} (e : ι[n]? = some a) : SrcIt W S H ι (.lst n) (Itl S.K a) := fun H' ι' hp' s rh i => by
  unfold Src.at
  split
  · trivial
  · rename_i h
    dsimp only at h
    split at h
    · rename_i xs hx
      have h' := Option.some.inj h
      obtain ⟨vs, e1, r⟩ := rh.lst (s.px _ _ e) hx
      refine ⟨vs, SqL.of e1, ?_⟩
      rw [r.length]
      exact List.getElem?_eq_none_iff.mp h'
    · cases h
  · rename_i d h
    dsimp only at h
    split at h
    · rename_i xs hx
      have h' := Option.some.inj h
      obtain ⟨vs, e1, r⟩ := rh.lst (s.px _ _ e) hx
      obtain ⟨v, hv, rv⟩ := r.get h'
      refine ⟨⟨vs, v, SqL.of e1, hv⟩, fun x H2 y => ?_⟩
      obtain ⟨rfl, y⟩ := y
      have := y vs (SqL.of e1)
      rw [hv] at this; cases this
      exact ⟨Stp.refl _ _, rh, rv⟩
    · cases h
theorem srcIt_tup {W : Wd} {S : Sg} {H : Hp} {ι : List Addr} {a : Addr} {ds : List D} {vs : List V} (q : SqT S.K H a vs) (r : RVs S H ι ds vs) : SrcIt W S H ι (.its ds) (Itt S.K a) := fun H' ι' hp' s rh i => by
  have q' := s.tm.sqT q
  have r' := RVs.mono s.tm s.px _ _ r
  show match some ds[i]? with | none => _ | some none => _ | some (some d) => _
  cases h : ds[i]? with
  | none =>
    refine ⟨vs, q', ?_⟩
    rw [r'.length]
    exact List.getElem?_eq_none_iff.mp h
  | some d =>
    obtain ⟨v, hv, rv⟩ := r'.get h
    refine ⟨⟨vs, v, q', hv⟩, fun x H2 y => ?_⟩
    obtain ⟨rfl, y⟩ := y
    have := y vs q'
    rw [hv] at this; cases this
    exact ⟨Stp.refl _ _, rh, rv⟩
theorem srcIt_scr {W : Wd} {S : Sg} {H : Hp} {ι : List Addr} {a : Addr} {ds : List D} {vs : List V} (q : SqF S.K H a vs) (r : RVs S H ι ds vs) : SrcIt W S H ι (.its ds) (Itl S.K a) := fun H' ι' hp' s rh i => by
  have q' := (s.tm.sqF q).sq
  have r' := RVs.mono s.tm s.px _ _ r
  show match some ds[i]? with | none => _ | some none => _ | some (some d) => _
  cases h : ds[i]? with
  | none =>
    refine ⟨vs, q', ?_⟩
    rw [r'.length]
    exact List.getElem?_eq_none_iff.mp h
  | some d =>
    obtain ⟨v, hv, rv⟩ := r'.get h
    refine ⟨⟨vs, v, q', hv⟩, fun x H2 y => ?_⟩
    obtain ⟨rfl, y⟩ := y
    have := y vs q'
    rw [hv] at this; cases this
    exact ⟨Stp.refl _ _, rh, rv⟩
theorem srcIt_rng {W : Wd} {S : Sg} {H : Hp} {ι : List Addr} {lo : Int} {n : Nat} : SrcIt W S H ι (.rng lo n) (Itr lo n) := fun H' ι' hp' s rh i => by
  show match some (if i < n then some (D.int (lo + (i : Int))) else none) with | none => _ | some none => _ | some (some d) => _
  by_cases h : i < n
  · rw [if_pos h]
    refine ⟨h, fun x H2 y => ?_⟩
    obtain ⟨rfl, rfl⟩ := y
    exact ⟨Stp.refl _ _, rh, rv_int⟩
  · rw [if_neg h]
    exact Nat.le_of_not_lt h
theorem di_list (h : DE X Wx iter a) : DI X Wx tg iter (mSrc a) := PI.imp (pi_list h) fun σ H R h => by
  unfold mSrc at h
  refine tG_bind h fun env ι d v H1 hp1 rs rh e o => ?_
  split at o
  · rename_i n
    split at o
    · rename_i ds hx
      obtain ⟨b, e1, rfl⟩ := e.ref
      obtain ⟨vs, h1, r⟩ := rh.lst e1 hx
      exact ⟨b, rfl, ⟨vs, SqL.of h1⟩, o.ok (Stp.refl _ _) rh (srcIt_lst e1)⟩
    · exact o.elim
  · obtain ⟨b, vs, rfl, q, r⟩ := e.scr
    exact ⟨b, rfl, ⟨vs, q.sq⟩, o.ok (Stp.refl _ _) rh (srcIt_scr q r)⟩
  · exact o.elim
theorem di_tup (h : DE X Wx iter a) : DI X Wx tg iter (mSrcT a) := PI.imp (pi_tup h) fun σ H R h => by
  unfold mSrcT at h
  refine tG_bind h fun env ι d v H1 hp1 rs rh e o => ?_
  split at o
  · obtain ⟨b, vs, rfl, q, r⟩ := e.tup
    exact ⟨b, rfl, ⟨vs, q⟩, o.ok (Stp.refl _ _) rh (srcIt_tup q r)⟩
  · exact o.elim
theorem di_range1 {x : Expr} {r : MG (List D)} {p pos : Pos} (hg : Gl X "range") (hm : X.mg "range" = none) (ha : DA X Wx [x] r) (hs : starEach [x] X.env = [(false, eval x X.env)] := by rfl) : DI X Wx tg (.Call (.Name "range" p) [x] [] pos) (mRng1 r) :=
  PI.imp (pi_range1 hg hm ha hs) fun σ H R h => by
    unfold mRng1 at h
    refine tG_bind h fun env ι d v H1 hp1 rs rh e o => ?_
    split at o
    · split at o
      · rename_i j hj
        simp only [RVs, RV] at e
        obtain ⟨v1, r1, rfl, rfl, rfl⟩ := e
        exact ⟨j, rfl, hj.1, hj.2, o.ok (Stp.refl _ _) rh srcIt_rng⟩
      · exact o.elim
    · exact o.elim
theorem di_range2 {x y : Expr} {r : MG (List D)} {p pos : Pos} (hg : Gl X "range") (hm : X.mg "range" = none) (ha : DA X Wx [x, y] r) (hs : starEach [x, y] X.env = [(false, eval x X.env), (false, eval y X.env)] := by rfl) (hs2 : starEach [y] X.env = [(false, eval y X.env)] := by rfl) : DI X Wx tg (.Call (.Name "range" p) [x, y] [] pos) (mRng2 r) :=
  PI.imp (pi_range2 hg hm ha hs hs2) fun σ H R h => by
    unfold mRng2 at h
    refine tG_bind h fun env ι d v H1 hp1 rs rh e o => ?_
    split at o
    · split at o
      · rename_i i j hj
        simp only [RVs, RV] at e
        obtain ⟨v1, r1, rfl, rfl, v2, r2, rfl, rfl, rfl⟩ := e
        exact ⟨i, j, rfl, hj, o.ok (Stp.refl _ _) rh srcIt_rng⟩
      · exact o.elim
    · exact o.elim
end

/-! ### for -/
def forGo (src : Src) (g : MT) (b : MS) : Nat → Nat → MS
  | 0, _ => fun _ _ => .stuck
  | f + 1, i => fun env hp => match src.at hp i with
    | none => .stuck
    | some none => .nx env hp
    | some (some d) => (g d env hp).st env fun env hp => match b env hp with
      | .nx env hp => forGo src g b f (i + 1) env hp
      | .ct env hp => forGo src g b f (i + 1) env hp
      | .bk env hp => .nx env hp
      | r => r
def mFor (it : MG Src) (g : MT) (b : MS) : MS := fun env hp => (it env hp).st env fun src hp => forGo src g b (src.size hp + 1) 0 env hp
theorem ds_for {X : Cx} {Wx : WX} {pos : Pos} {tg iter : Expr} {body : List Stmt} {it : MG Src} {g : MT} {mb : MS} (hp : PassesOwn (model X.prog X.w) X.A X.env X.xe) (hc : X.calm = true) (hi : DI X Wx tg iter it) (hg : DG X Wx tg g) (hb : DSs X Wx body mb)
    (hs : ∀ x, foldedSetIterable iter X.env x = pure x := by intro _; rfl) : DSt X Wx (.For tg iter body [] pos) (mFor it g mb) :=
  PS.imp (ps_for hp hc hi hg hb hs) fun E σ H h => by
    unfold mFor at h
    refine tS_st h fun env ι src J H1 hp1 rs rh e o => ?_
    refine ⟨fun i k σ' H' => ∃ ι' env' hp', Stp H1 ι H' ι' ∧ RS (sg X) H' ι' env' σ' ∧ RH (wd X) (sg X) H' ι' hp' ∧ OutS (wd X) (sg X) Wx H' ι' (forGo src g mb k i env' hp') E, ⟨_, ι, env, hp1, Stp.refl _ _, rs, rh, o⟩, fun i k σ' H' hw => ?_⟩
    obtain ⟨ι', env', hp', s', rs', rh', o'⟩ := hw
    cases k with
    | zero => exact o'.elim
    | succ k =>
      have hJ := e H' ι' hp' s' rh' i
      unfold forGo at o'
      split at o'
      · exact o'.elim
      · rename_i hat
        rw [hat] at hJ
        exact .inl ⟨hJ, o' σ' H' ι' (Stp.refl _ _) rh' rs'⟩
      · rename_i d hat
        rw [hat] at hJ
        refine .inr ⟨hJ.1, fun σ2 H2 => ∃ ι' env' hp', Stp H1 ι H2 ι' ∧ RS (sg X) H2 ι' env' σ2 ∧ RH (wd X) (sg X) H2 ι' hp' ∧ OutS (wd X) (sg X) Wx H2 ι' (forGo src g mb k (i + 1) env' hp') E, fun σ2 H2 q => ⟨k, Nat.lt_succ_self k, q⟩, fun x H2 hy => ?_⟩
        obtain ⟨s2, rh2, rv2⟩ := hJ.2 x H2 hy
        refine ⟨ι', env', hp', d, rs'.mono s2, rh2, rv2, OutS.st (rel := RS (sg X)) (rs'.mono s2) (OutS.mono s2 o') fun env3 σ3 H3 ι3 hp3 s3 rh3 e3 o3 => tS_in e3 rh3 ?_⟩
        generalize mb env3 hp3 = r at o3 ⊢
        have s13 := (s'.trans s2).trans s3
        cases r with
        | nx env4 hp4 => exact fun σ4 H4 ι4 s4 r4 e4 => ⟨ι4, env4, hp4, s13.trans s4, e4, r4, OutS.mono s4 o3⟩
        | ct env4 hp4 => exact fun σ4 H4 ι4 s4 r4 e4 => ⟨ι4, env4, hp4, s13.trans s4, e4, r4, OutS.mono s4 o3⟩
        | bk env' hp' => exact o3
        | rt d hp' => exact o3
        | exc env' x hp' => exact o3
        | stuck => exact o3
end DL
namespace DL
open PySem PySem.Spec PyProof.Rows L2

/-! ### defs -/
abbrev Rn := List D → DH → R D
def startE (n : Nat) (ds : List D) : En := ds.map some ++ List.replicate (n - ds.length) none
/-- what a def's body gives: np parameters, n names -/
def run (np n : Nat) (m : MS) : Rn := fun ds hp => if ds.length = np then
    match m (startE n ds) hp with
    | .nx _ h => .ok .non h
    | .rt d h => .ok d h
    | .exc _ x h => .exc x h
    | _ => .stuck
  else .stuck
def R.nx {α : Type} (r : R α) : R α := match r with
  | .exc _ _ => .stuck
  | r => r
@[simp] theorem R.nx_ok {α : Type} {a : α} {h : DH} : (R.ok a h).nx = .ok a h := rfl
@[simp] theorem R.nx_exc {α : Type} {x : DX} {h : DH} : (R.exc x h : R α).nx = .stuck := rfl
@[simp] theorem R.nx_stuck {α : Type} : (R.stuck : R α).nx = .stuck := rfl
def spF (W : Wd) (S : Sg) (np : Nat) (f : Rn) : Sp := fun vs H Q E => ∃ ι ds hp, RVs S H ι ds vs ∧ RH W S H ι hp ∧ ds.length = np ∧ OutG W S (fun c d _ H => E c d H) (RV S) [] H ι (f ds hp) Q
theorem rs_start {S : Sg} {H : Hp} {ι : List Addr} {N : List Str} {ds : List D} {vs : List V} (h : RVs S H ι ds vs) : RS S H ι (startE N.length ds) (L2.start N vs) := by
  refine ⟨by simp [startE, L2.start, h.length], fun i d e => ?_⟩
  unfold startE at e
  unfold L2.start
  have hl := h.length
  by_cases hi : i < ds.length
  · rw [List.getElem?_append_left (by simpa using hi), List.getElem?_map] at e
    obtain ⟨d', e1, e2⟩ := Option.map_eq_some_iff.mp e
    cases e2
    obtain ⟨v, hv, r⟩ := h.get e1
    refine ⟨v, ?_, r⟩
    rw [List.getElem?_append_left (by simp [hl]; exact hi), List.getElem?_map, hv]
    rfl
  · rw [List.getElem?_append_right (by simpa using Nat.le_of_not_lt hi)] at e
    rw [List.getElem?_replicate] at e
    split at e
    · cases e
    · cases e
theorem out_run {W : Wd} {S : Sg} {Wx : WX} {σ : L2.St} {H : Hp} {ι : List Addr} {np n : Nat} {m : MS} {ds : List D} {hp : DH} {Q : VK} {E : XK} (hW : ∀ c d σ H, Wx c d σ H = E c d H)
    (h : OutG W S (fun c d _ H => E c d H) (RV S) σ H ι (run np n m ds hp) Q) : OutS W S Wx H ι (m (startE n ds) hp) { nx := fun _ H' => Q .non H', rt := Q } := by
  unfold run at h
  split at h
  · generalize m (startE n ds) hp = r at h ⊢
    cases r with
    | nx env hp => exact fun σ' H1 ι1 s r e => h .non H1 ι1 s r rv_non
    | rt d hp => exact h
    | bk env hp => exact (show False from h).elim
    | ct env hp => exact (show False from h).elim
    | exc env x hp => exact fun c d σ' H1 ι1 s r e x => (hW c d σ' H1) ▸ h c d H1 ι1 s r x
    | stuck => exact h
  · exact h.elim
section
variable {P : Program} {w : World} {K : PySem.W.Frag} {mg : Str → Option Value} {base : Heap} {x qual : Str} {params : Arguments} {body : List Stmt} {scope : Scope} {dvs : List V} {kws : List (Str × V)} {f : Addr} {fd : FuncData}
/-- THE RULE for a def: its body's reckoning m -/
theorem dfn_ok {N ps : List Str} {k n np : Nat} {m : MS} (F : FunD K x qual params body scope dvs kws f fd) (S : FnScope N ps scope) (hn : N.length = n) (hp : ps.length = np)
    (hb : ∀ (cdv : Value) (A : Around) (outer : List Env) (s : Shared) (H : Hp) (E : XK), Room k (A.deeper (envOfC qual scope s.heap.objs.size f cdv)) →
      Takes (cxOf (L2.CX P w) P w K mg base N qual scope f cdv A outer s H E) (fun c d _ H => E c d H) →
      DSs (cxOf (L2.CX P w) P w K mg base N qual scope f cdv A outer s H E) (fun c d _ H => E c d H) body m) : FnOk P w K mg base (L2.CX P w) (k + 1) f fd ps (spF ⟨P, w⟩ ⟨K, mg⟩ np (run np n m)) := by
  subst hn hp
  refine F.ok S (fun vs H Q E h => ?_) fun cdv A outer s H vs Q E hr h => ?_
  · obtain ⟨ι, ds, hp, h1, h2, h3, h4⟩ := h
    rw [h1.length, h3]
  · obtain ⟨ι, ds, hp, h1, h2, h3, h4⟩ := h
    refine ⟨_, hb cdv A outer s H E hr (takes_of rfl rfl rfl rfl), ι, startE N.length ds, hp, rs_start h1, h2, out_run (fun _ _ _ _ => rfl) h4⟩
end

/-! ### calls -/
def mCall (f : Rn) (r : MG (List D)) : ME := fun env hp => (r env hp).bind fun ds hp => f ds hp
section
variable {X : Cx} {Wx : WX} {k np : Nat} {fa C : Addr} {fd : FuncData} {ps : List Str} {run : Rn} {x m : Str} {p pos apos : Pos} {e o : Expr} {es : List Expr} {mo : ME} {r : MG (List D)}
theorem RVs.len_of {S : Sg} {H : Hp} {ι : List Addr} {ds : List D} {vs : List V} (h : RVs S H ι ds vs) : ds.length = vs.length := h.length.symm
/-- a def that is asked with another number of things is stuck -/
structure Cn (np : Nat) (run : Rn) : Prop where
  len : ∀ ds hp, ds.length ≠ np → run ds hp = .stuck
theorem cn_run {np n : Nat} {m : MS} : Cn np (DL.run np n m) := ⟨fun ds hp h => by unfold DL.run; rw [if_neg h]⟩
theorem sp_go {W : Wd} {S : Sg} {σ : L2.St} {H : Hp} {ι : List Addr} {ds : List D} {vs : List V} {hp : DH} {Q : VK} {E : XK} (c : Cn np run) (h1 : RVs S H ι ds vs) (h2 : RH W S H ι hp) (hW : ∀ c d H, Wx c d σ H → E c d H)
    (h : OutG W S Wx (RV S) σ H ι (run ds hp) Q) : spF W S np run vs H Q E := by
  refine ⟨ι, ds, hp, h1, h2, ?_, ?_⟩
  · by_cases hl : ds.length = np
    · exact hl
    · rw [c.len ds hp hl] at h; exact h.elim
  · generalize run ds hp = r at h ⊢
    cases r with
    | ok d hp => exact h
    | exc x hp => exact fun c d H1 ι1 s r e => hW _ _ _ (h c d H1 ι1 s r e)
    | stuck => exact h
theorem d_call (F : FnOk X.prog X.w X.K X.mg X.base (L2.CX X.prog X.w) k fa fd ps (spF (wd X) (sg X) np run)) (c : Cn np run) (hr : Room k X.A) (hg : Gl X x) (hm : X.mg x = some (.ref fa)) (hk : PySem.W.keepIn X.K (.ref fa) = true) (hb : Binds X.K fd ps []) (tk : Takes X Wx)
    (ha : DA X Wx (e :: es) r) (hdb : (x == ("__debug__" : Str)) = false := by decide) (he : starEach (e :: es) X.env = (false, eval e X.env) :: starEach es X.env := by rfl) (hpl : (backTo pos (starEach es X.env)).any (·.1) = false := by rfl) :
    DE X Wx (.Call (.Name x p) (e :: es) [] pos) (mCall run r) :=
  PE.imp (pe_callSD F hr hg hm hk hb .nil (fun σ => passAt tk σ) ha hdb he hpl) fun σ H Q h => tG_bind (f := fun env ds hp => run ds hp) h fun env ι ds vs H1 hp1 rs rh e o => by
    show spF _ _ _ _ (vs ++ []) H1 Q _
    rw [List.append_nil]
    exact sp_go c e rh (fun _ _ _ h => h) o
/-- o.m(..) -/
def mMeth (C : Str) (m : Str) (run : Rn) (o : ME) (r : MG (List D)) : ME := fun env hp => (o env hp).bind fun x hp => match x with
  | .ref n => match hp[n]? with
    | some (.ins C' fs) => if C' = C ∧ fs.lookup m = none then (r env hp).bind fun ds hp => (run (.ref n :: ds) hp).nx else .stuck
    | _ => .stuck
  | _ => .stuck
theorem meth_go {Cn' : Str} (c : Cn np run) (hC : C = (sg X).cl Cn') {σ : L2.St} {H : Hp} {Q : VK} (h : tD (wd X) (sg X) Wx (mMeth Cn' m run mo r) σ H Q) :
    tMeth C m (spF (wd X) (sg X) np run) [] E0 (tD (wd X) (sg X) Wx mo) (tDs (wd X) (sg X) Wx r) σ H Q := by
  unfold mMeth at h
  refine tG_bind h fun env ι d v H1 hp1 rs rh e o => ?_
  split at o
  · rename_i n
    split at o
    · rename_i C' fs hx
      split at o
      · rename_i hc
        obtain ⟨a, e1, rfl⟩ := e.ref
        obtain ⟨dx, gs, h1, r1⟩ := rh.obj n a _ e1 hx
        rw [hc.1] at h1
        refine ⟨a, dx, gs, rfl, by rw [hC]; exact h1, r1.lookup_none hc.2, tG_in rs rh (OutG.bind o fun ds vs H2 ι2 hp2 s2 rh2 e2 o2 => ?_)⟩
        rw [List.append_nil]
        have e3 : RVs (sg X) H2 ι2 (.ref n :: ds) (.ref a :: vs) := by
          simp only [RVs, RV]
          exact ⟨_, _, rfl, ⟨a, s2.px _ _ e1, rfl⟩, e2⟩
        refine sp_go (Wx := fun _ _ _ _ => False) (σ := σ) c e3 rh2 (fun _ _ _ h => h) ?_
        generalize run (.ref n :: ds) hp2 = r at o2 ⊢
        cases r with
        | ok d hp => exact o2
        | exc x hp => exact o2.elim
        | stuck => exact o2
      · exact o.elim
    · exact o.elim
  · exact o.elim
theorem d_meth {Cn' : Str} {pl : Sem Bool} (he : DE X Wx o mo) (hC : C = (sg X).cl Cn') (c : Cls X.K C) (hm : Meth X.K C m fa) (F : FnOk X.prog X.w X.K X.mg X.base (L2.CX X.prog X.w) k fa fd ps (spF (wd X) (sg X) np run)) (cn : Cn np run) (hr : Room k X.A) (hb : Binds X.K fd ps [])
    (ha : DA X Wx (e :: es) r)
    (hst : starEach (e :: es) X.env = (false, eval e X.env) :: starEach es X.env := by rfl) (hpl : (backTo pos (starEach es X.env)).any (·.1) = false := by rfl)
    (ht : eval (.Call (.Attribute o m apos) (e :: es) [] pos) X.env = (do
      let ov ← eval o X.env
      standAt apos.atName
      let (f, first) ← holding [ov] (getMethod ov m pl)
      callWith pos f first (backTo pos (starEach (e :: es) X.env)) (backToKw pos (keywordEach [] X.env))) := by rfl) :
    DE X Wx (.Call (.Attribute o m apos) (e :: es) [] pos) (mMeth Cn' m run mo r) :=
  PE.imp (pe_meth he c hm F hr hb .nil passL ha hst hpl ht) fun σ H Q h => meth_go cn hC h
theorem d_meth0 {Cn' : Str} {pl : Sem Bool} (he : DE X Wx o mo) (hC : C = (sg X).cl Cn') (c : Cls X.K C) (hm : Meth X.K C m fa) (F : FnOk X.prog X.w X.K X.mg X.base (L2.CX X.prog X.w) k fa fd ps (spF (wd X) (sg X) np run)) (cn : Cn np run) (hr : Room k X.A) (hb : Binds X.K fd ps [])
    (hpe : PE X (.Call (.Attribute o m apos) [] [] pos) (tMeth C m (spF (wd X) (sg X) np run) [] E0 (tD (wd X) (sg X) Wx mo) tNil)) :
    DE X Wx (.Call (.Attribute o m apos) [] [] pos) (mMeth Cn' m run mo mNil) :=
  PE.imp hpe fun σ H Q h => by
    unfold mMeth at h
    refine tG_bind h fun env ι d v H1 hp1 rs rh e o => ?_
    split at o
    · rename_i n
      split at o
      · rename_i C' fs hx
        split at o
        · rename_i hc
          obtain ⟨a, e1, rfl⟩ := e.ref
          obtain ⟨dx, gs, h1, r1⟩ := rh.obj n a _ e1 hx
          rw [hc.1] at h1
          refine ⟨a, dx, gs, rfl, by rw [hC]; exact h1, r1.lookup_none hc.2, ?_⟩
          have e3 : RVs (sg X) H1 ι [.ref n] [.ref a] := by
            simp only [RVs, RV]
            exact ⟨_, _, rfl, ⟨a, e1, rfl⟩, rfl⟩
          refine sp_go (Wx := fun _ _ _ _ => False) (σ := σ) cn e3 rh (fun _ _ _ h => h) ?_
          have o2 : OutG (wd X) (sg X) Wx (RV (sg X)) σ H1 ι (run [.ref n] hp1).nx Q := o
          generalize run [.ref n] hp1 = r at o2 ⊢
          cases r with
          | ok d hp => exact o2
          | exc x hp => exact o2.elim
          | stuck => exact o2
        · exact o.elim
      · exact o.elim
    · exact o.elim
/-- C(..) -/
def mk (C : Str) (run : Rn) (ds : List D) (hp : DH) : R D := ((run (.ref hp.length :: ds) (hp ++ [.ins C []])).nx).bind fun d hp' => match d with
  | .non => .ok (.ref hp.length) hp'
  | _ => .stuck
def mMake (C : Str) (run : Rn) (r : MG (List D)) : ME := fun env hp => (r env hp).bind fun ds hp => mk C run ds hp
theorem make_go {Cn' : Str} {ds : List D} {vs : List V} {σ : L2.St} {H : Hp} {ι : List Addr} {hp : DH} {Q : VK} (cn : Cn np run) (hC : C = (sg X).cl Cn') (rh : RH (wd X) (sg X) H ι hp) (e : RVs (sg X) H ι ds vs)
    (o : OutG (wd X) (sg X) Wx (RV (sg X)) σ H ι (mk Cn' run ds hp) Q)
    {x dx : Addr} (nx : H x = none) (nd : H dx = none) (ne : dx ≠ x) : spF (wd X) (sg X) np run (.ref x :: vs) (upd (upd H dx (.own x)) x (.ins C dx [])) (fun v H2 => v = .non ∧ Q (.ref x) H2) E0 := by
  have nx' : upd H dx (.own x) x = none := by rw [upd_ne (Ne.symm ne)]; exact nx
  have s1 : Stp H ι (upd H dx (.own x)) ι := Stp.upd nd
  have s2 : Stp (upd H dx (.own x)) ι (upd (upd H dx (.own x)) x (.ins C dx [])) (ι ++ [x]) := (Stp.upd nx').add nx'
  have rh1 := (rh.newt (u := .own x) nd).alloc (o := .ins Cn' []) (u := .ins C dx []) nx' ⟨dx, [], by rw [upd_same, hC], rfl⟩
  have e3 : RVs (sg X) (upd (upd H dx (.own x)) x (.ins C dx [])) (ι ++ [x]) (.ref hp.length :: ds) (.ref x :: vs) := by
    simp only [RVs, RV]
    exact ⟨_, _, rfl, ⟨x, by rw [← rh.len]; simp, rfl⟩, RVs.mono (s1.trans s2).tm (s1.trans s2).px _ _ e⟩
  refine sp_go (Wx := fun _ _ _ _ => False) (σ := σ) cn e3 rh1 (fun _ _ _ h => h) ?_
  unfold mk at o
  generalize run (.ref hp.length :: ds) (hp ++ [.ins Cn' []]) = rr at o ⊢
  cases rr with
  | ok d hp' =>
    intro v H2 ι2 s3 rh2 ev
    cases d with
    | non =>
      refine ⟨ev.non, ?_⟩
      refine o (.ref x) H2 ι2 ((s1.trans s2).trans s3) rh2 ?_
      simp only [RV]
      exact ⟨x, s3.px _ _ (by rw [← rh.len]; simp), rfl⟩
    | _ => exact (show False from o).elim
  | exc x hp => exact (show False from o).elim
  | stuck => exact (show False from o).elim
theorem d_make {Cn' : Str} {dvs : List V} {dds : List D} {ds : List Value} (hC : C = (sg X).cl Cn') (M : Mk X.K C fa) (F : FnOk X.prog X.w X.K X.mg X.base (L2.CX X.prog X.w) k fa fd ps (spF (wd X) (sg X) np run)) (cn : Cn np run) (hr : Room (k + 1) X.A) (hg : Gl X x) (hm : X.mg x = some (.ref C)) (hb : Binds X.K fd ps ds) (hd : Vals dvs ds)
    (hdd : ∀ H ι, RVs (sg X) H ι dds dvs) (ha : DA X Wx (e :: es) r) (hdb : (x == ("__debug__" : Str)) = false := by decide) (he : starEach (e :: es) X.env = (false, eval e X.env) :: starEach es X.env := by rfl) (hpl : (backTo pos (starEach es X.env)).any (·.1) = false := by rfl) :
    DE X Wx (.Call (.Name x p) (e :: es) [] pos) (mMake Cn' run fun env hp => (r env hp).bind fun vs hp => .ok (vs ++ dds) hp) :=
  PE.imp (pe_make M F hr hg hm hb hd passL ha hdb he hpl) fun σ H Q h => by
    have h2 : tD (wd X) (sg X) Wx (fun env hp => (r env hp).bind fun ds hp => mk Cn' run (ds ++ dds) hp) σ H Q := by
      obtain ⟨ι, env, hp, rs, rh, o⟩ := h
      refine ⟨ι, env, hp, rs, rh, ?_⟩
      unfold mMake at o
      dsimp only at o ⊢
      generalize r env hp = rr at o ⊢
      cases rr with
      | ok a h => exact o
      | exc x h => exact o
      | stuck => exact o
    refine tG_bind h2 fun env ι ds vs H1 hp1 rs rh e o => fun a dx na nd ne => ?_
    exact make_go cn hC rh (e.append (hdd _ _)) o na nd ne
end
/-- two lists of arguments, one behind the other -/
def mApp (r t : MG (List D)) : MG (List D) := fun env hp => (r env hp).bind fun xs hp => (t env hp).bind fun ys hp => .ok (xs ++ ys) hp
abbrev DK (X : Cx) (Wx : WX) (kws : List Keyword) (m : MG (List D)) : Prop := PK X kws (tDs (wd X) (sg X) Wx m)
theorem PK.imp {X : Cx} {e : List Keyword} {t t' : TA} (h : PK X e t) (i : ∀ σ H Q, t' σ H Q → t σ H Q) : PK X e t' := ⟨fun p pins s σ H Q I q => h.run p pins s σ H Q I (i σ H Q q)⟩
section
variable {X : Cx} {Wx : WX} {k np n : Nat} {fa C : Addr} {fd : FuncData} {ps ks : List Str} {run : Rn} {x m : Str} {p pos apos kpos : Pos} {e o : Expr} {es : List Expr} {mo : ME} {r rk : MG (List D)} {kws : List Keyword} {nm : Option Str}
theorem dk_nil : DK X Wx [] mNil := PK.imp pk_nil fun σ H Q ⟨ι, env, hp, rs, rh, o⟩ => o.ok (Stp.refl _ _) rh (by simp [RVs])
theorem dk_cons (ha : DE X Wx e mo) (hr : DK X Wx kws r) (hpk : PK X (⟨nm, e, kpos⟩ :: kws) (tCons (tD (wd X) (sg X) Wx mo) (tDs (wd X) (sg X) Wx r))) : DK X Wx (⟨nm, e, kpos⟩ :: kws) (mCons mo r) :=
  PK.imp hpk fun σ H Q h => tG_bind (f := fun env x hp => (r env hp).bind fun xs hp => .ok (x :: xs) hp) h fun env ι d v H1 hp1 rs rh e o =>
    tG_in rs rh (OutG.bind o fun ds vs H2 ι2 hp2 s2 rh2 e2 o2 => o2.ok (Stp.refl _ _) rh2 (by simp only [RVs]; exact ⟨v, vs, rfl, RV.mono s2.tm s2.px _ _ e, e2⟩))
/-- C(e, .., k = v, ..), the keywords in the parameters' order and all that lack -/
theorem d_makeK {Cn' : Str} {g : List Value → List Value → List Value} (hC : C = (sg X).cl Cn') (M : Mk X.K C fa) (F : FnOk X.prog X.w X.K X.mg X.base (L2.CX X.prog X.w) k fa fd ps (spF (wd X) (sg X) np run)) (cn : Cn np run) (hr : Room (k + 1) X.A) (hg : Gl X x) (hm : X.mg x = some (.ref C))
    (hb : KBn X.K fd ps (n + 1) ks g (fun vs zs => vs ++ zs)) (ha : DA X Wx (e :: es) r) (hkw : DK X Wx kws rk) (hn : (e :: es).length = n) (hr1 : ∀ env hp ds hp', r env hp = .ok ds hp' → ds.length = n) (hr2 : ∀ env hp ds hp', rk env hp = .ok ds hp' → ds.length = ks.length)
    (hpe : PE X (.Call (.Name x p) (e :: es) kws pos) (tMakeK C n ks.length (spF (wd X) (sg X) np run) (fun vs zs => vs ++ zs) E0 (tDs (wd X) (sg X) Wx r) (tDs (wd X) (sg X) Wx rk))) :
    DE X Wx (.Call (.Name x p) (e :: es) kws pos) (mMake Cn' run (mApp r rk)) :=
  PE.imp hpe fun σ H Q h => by
    obtain ⟨ι, env, hp, rs, rh, o⟩ := h
    unfold mMake mApp at o
    generalize h1 : r env hp = rr at o
    cases rr with
    | stuck => exact o.elim
    | exc x h => exact ⟨ι, env, hp, rs, rh, by rw [h1]; exact o⟩
    | ok ds hp1 =>
      refine ⟨ι, env, hp, rs, rh, ?_⟩
      rw [h1]
      intro vs H1 ι1 s1 rh1 e1
      refine ⟨ι1, env, hp1, rs.mono s1, rh1, ?_⟩
      rw [R.bind_ok] at o
      generalize h2 : rk env hp1 = r2 at o ⊢
      cases r2 with
      | stuck => exact (show False from o).elim
      | exc x h => exact fun c d H2 ι2 s2 => o c d H2 ι2 (s1.trans s2)
      | ok es2 hp2 =>
        intro zs H2 ι2 s2 rh2 e2
        refine ⟨by rw [e1.length]; exact hr1 _ _ _ _ h1, by rw [e2.length]; exact hr2 _ _ _ _ h2, fun a dx na nd ne => ?_⟩
        have o3 := OutG.mono (s1.trans s2) o
        exact make_go (Wx := Wx) (σ := σ) cn hC rh2 ((RVs.mono s2.tm s2.px _ _ e1).append e2) o3 na nd ne

/-! ### attributes -/
def mFld (cs : List Str) (f : Str) (o : ME) : ME := fun env hp => (o env hp).bind fun x hp => match x with
  | .ref n => match hp[n]? with
    | some (.ins C fs) => if C ∈ cs then match fs.lookup f with | some d => .ok d hp | none => .stuck else .stuck
    | _ => .stuck
  | _ => .stuck
theorem d_fld {cs : List Str} (he : DE X Wx o mo) (hc : ∀ C ∈ cs, Cls X.K ((sg X).cl C) ∧ NoAttr X.K ((sg X).cl C) m) (hb : attributeBase o m X.env (eval o X.env) = eval o X.env := by rfl) : DE X Wx (.Attribute o m pos) (mFld cs m mo) :=
  PE.imp (pe_fld he hb) fun σ H Q h => by
    unfold mFld at h
    refine tG_bind h fun env ι d v H1 hp1 rs rh e o => ?_
    split at o
    · rename_i n
      split at o
      · rename_i C fs hx
        split at o
        · rename_i hC
          split at o
          · rename_i d' hd
            obtain ⟨a, e1, rfl⟩ := e.ref
            obtain ⟨dx, gs, h1, r1⟩ := rh.obj n a _ e1 hx
            obtain ⟨v', hv, rv⟩ := r1.lookup hd
            exact ⟨a, _, dx, gs, v', rfl, h1, (hc C hC).1, (hc C hC).2, hv, o.ok (Stp.refl _ _) rh rv⟩
          · exact o.elim
        · exact o.elim
      · exact o.elim
    · exact o.elim
/-- o.f = e -/
def mSetF (cs : List Str) (f : Str) (o v : ME) : MS := fun env hp => (v env hp).st env fun y hp => (o env hp).st env fun x hp => match x with
  | .ref n => match hp[n]? with
    | some (.ins C fs) => if C ∈ cs ∧ fs.length < 1000 then .nx env (hp.set n (.ins C (putD f y fs))) else .stuck
    | _ => .stuck
  | _ => .stuck
theorem ds_setF {cs : List Str} {value : Expr} {mv : ME} {pos' : Pos} (ha : DE X Wx o mo) (hv : DE X Wx value mv) (hc : ∀ C ∈ cs, Cls X.K ((sg X).cl C) ∧ NoAttr X.K ((sg X).cl C) m) (hs : swapsWith value (some (.Attribute o m pos')) pos.line X.env = pure false := by rfl) :
    DSt X Wx (.Assign [.Attribute o m pos'] value pos) (mSetF cs m mo mv) :=
  PS.imp (ps_fld ha hv hs) fun E σ H h => by
    unfold mSetF at h
    refine tS_st h fun env ι y vy H1 hp1 rs rh e o => ?_
    refine tG_in rs rh (OutS.st (rel := RV (sg X)) rs o fun d v H2 ι2 hp2 s2 rh2 e2 o2 => ?_)
    split at o2
    · rename_i n
      split at o2
      · rename_i C fs hx
        split at o2
        · rename_i hC
          obtain ⟨a, e1, rfl⟩ := e2.ref
          obtain ⟨dx, gs, h1, r1⟩ := rh2.obj n a _ e1 hx
          have hm : a ∈ ι2 := List.mem_of_getElem? e1
          have t := rh2.tmw (u := .ins ((sg X).cl C) dx (putF m vy gs)) hm
          refine ⟨a, _, dx, gs, rfl, h1, (hc C hC.1).1, (hc C hC.1).2, by rw [r1.length]; exact hC.2, ?_⟩
          have s3 := rh2.stpw (u := .ins ((sg X).cl C) dx (putF m vy gs)) hm
          refine o2 σ _ ι2 s3 (rh2.write e1 t ⟨dx, _, upd_same, ?_⟩) ((rs.mono s2).mono s3)
          exact RFs.mono t (PX.refl _) (RFs.put (RV.mono s2.tm s2.px _ _ e) r1)
        · exact o2.elim
      · exact o2.elim
    · exact o2.elim
end
end DL
namespace DL
open PySem PySem.Spec PyProof.Rows L2

/-! ### values as data -/
mutual
def toP : D → Option PyData
  | .non => some PyData.none
  | .bl b => some (.bool b)
  | .int i => some (.int i)
  | .str x => some (.str x)
  | .tup ds => (toPs ds).map PyData.tuple
  | .scr _ => none
  | .ref _ => none
def toPs : List D → Option (List PyData)
  | [] => some []
  | d :: ds => (toP d).bind fun p => (toPs ds).map fun r => p :: r
end
mutual
theorem RV.dp {S : Sg} {H : Hp} {ι : List Addr} : ∀ (d : D) (v : V) (p : PyData), RV S H ι d v → toP d = some p → Dp S.K H v p
  | .non, v, p, h, e => by cases e; rw [h.non]; exact .non
  | .bl b, v, p, h, e => by cases e; rw [h.bl]; exact .bl b
  | .int i, v, p, h, e => by cases e; rw [h.int]; exact .int i
  | .str i, v, p, h, e => by cases e; rw [h.str]; exact .str i
  | .scr _, v, p, h, e => by cases e
  | .ref _, v, p, h, e => by cases e
  | .tup ds, v, p, h, e => by
    simp only [toP] at e
    obtain ⟨ps, e1, rfl⟩ := Option.map_eq_some_iff.mp e
    obtain ⟨a, vs, rfl, q, r⟩ := h.tup
    exact .tup q (RVs.dp ds vs ps r e1)
theorem RVs.dp {S : Sg} {H : Hp} {ι : List Addr} : ∀ (ds : List D) (vs : List V) (ps : List PyData), RVs S H ι ds vs → toPs ds = some ps → DpAll S.K H vs ps
  | [], vs, ps, h, e => by cases e; simp only [RVs] at h; subst h; exact .nil
  | d :: ds, vs, ps, h, e => by
    simp only [toPs] at e
    obtain ⟨p, e1, e2⟩ := Option.bind_eq_some_iff.mp e
    obtain ⟨qs, e3, rfl⟩ := Option.map_eq_some_iff.mp e2
    simp only [RVs] at h
    obtain ⟨v, r, rfl, h1, h2⟩ := h
    exact .cons (RV.dp d v _ h1 e1) (RVs.dp ds r _ h2 e3)
end
mutual
theorem toP_inj : ∀ (d e : D) (p : PyData), toP d = some p → toP e = some p → d = e
  | .non, e, p, h, h' => by cases h; cases e <;> simp [toP] at h' ⊢
  | .bl b, e, p, h, h' => by cases h; cases e <;> simp [toP] at h' ⊢; exact h'.symm
  | .int b, e, p, h, h' => by cases h; cases e <;> simp [toP] at h' ⊢; exact h'.symm
  | .str b, e, p, h, h' => by cases h; cases e <;> simp [toP] at h' ⊢; exact h'.symm
  | .scr _, e, p, h, h' => by cases h
  | .ref _, e, p, h, h' => by cases h
  | .tup ds, e, p, h, h' => by
    simp only [toP] at h
    obtain ⟨ps, e1, rfl⟩ := Option.map_eq_some_iff.mp h
    cases e with
    | tup es =>
      simp only [toP] at h'
      obtain ⟨qs, e2, e3⟩ := Option.map_eq_some_iff.mp h'
      cases e3
      rw [toPs_inj ds es _ e1 e2]
    | _ => simp [toP] at h'
theorem toPs_inj : ∀ (ds es : List D) (ps : List PyData), toPs ds = some ps → toPs es = some ps → ds = es
  | [], es, ps, h, h' => by
    cases h
    cases es with
    | nil => rfl
    | cons e es =>
      simp only [toPs] at h'
      obtain ⟨p, e1, e2⟩ := Option.bind_eq_some_iff.mp h'
      obtain ⟨qs, e3, e4⟩ := Option.map_eq_some_iff.mp e2
      cases e4
  | d :: ds, es, ps, h, h' => by
    simp only [toPs] at h
    obtain ⟨p, e1, e2⟩ := Option.bind_eq_some_iff.mp h
    obtain ⟨qs, e3, rfl⟩ := Option.map_eq_some_iff.mp e2
    cases es with
    | nil => cases h'
    | cons e es =>
      simp only [toPs] at h'
      obtain ⟨p', e1', e2'⟩ := Option.bind_eq_some_iff.mp h'
      obtain ⟨qs', e3', e4⟩ := Option.map_eq_some_iff.mp e2'
      cases e4
      rw [toP_inj d e p e1 e1', toPs_inj ds es qs e3 e3']
end
theorem toPs_len : ∀ {ds : List D} {ps : List PyData}, toPs ds = some ps → ps.length = ds.length
  | [], ps, h => by cases h; rfl
  | d :: ds, ps, h => by
    simp only [toPs] at h
    obtain ⟨p, e1, e2⟩ := Option.bind_eq_some_iff.mp h
    obtain ⟨qs, e3, rfl⟩ := Option.map_eq_some_iff.mp e2
    simp [toPs_len e3]
theorem toPs_get : ∀ {ds : List D} {ps : List PyData} {i : Nat} {d : D}, toPs ds = some ps → ds[i]? = some d → ∃ p, ps[i]? = some p ∧ toP d = some p
  | [], ps, i, d, h, e => by simp at e
  | d0 :: ds, ps, i, d, h, e => by
    simp only [toPs] at h
    obtain ⟨p, e1, e2⟩ := Option.bind_eq_some_iff.mp h
    obtain ⟨qs, e3, rfl⟩ := Option.map_eq_some_iff.mp e2
    cases i with
    | zero => simp at e; subst e; exact ⟨p, rfl, e1⟩
    | succ i => simp at e; simpa using toPs_get e3 e
def okLt (p q : PyData) : Bool := PySem.W.alike p q && (match p with | .none => false | _ => true) && decide (min p.depth q.depth ≤ 60)
theorem okLt_of {p q : PyData} (h : okLt p q = true) : PySem.W.alike p q = true ∧ p ≠ .none ∧ min p.depth q.depth ≤ 60 := by
  unfold okLt at h
  rw [Bool.and_eq_true, Bool.and_eq_true] at h
  refine ⟨h.1.1, ?_, of_decide_eq_true h.2⟩
  rintro rfl
  exact Bool.false_ne_true h.1.2
def dCmp (c : PyData → PyData → Bool) (ok : PyData → PyData → Bool) (x y : D) (hp : DH) : R D := match toP x, toP y with
  | some p, some q => if ok p q = true then .ok (.bl (c p q)) hp else .stuck
  | _, _ => .stuck
def okEq (p q : PyData) : Bool := SeqAt.shaped p && SeqAt.shaped q
def dEq (x y : D) (hp : DH) : R D := match x, y with
  | .int i, .int j => .ok (.bl (i == j)) hp
  | .str i, .str j => .ok (.bl (i == j)) hp
  | .bl i, .bl j => .ok (.bl (i == j)) hp
  | x, y => dCmp PyData.eqv okEq x y hp
def dNe (x y : D) (hp : DH) : R D := match x, y with
  | .int i, .int j => .ok (.bl (!(i == j))) hp
  | .str i, .str j => .ok (.bl (!(i == j))) hp
  | .bl i, .bl j => .ok (.bl (!(i == j))) hp
  | x, y => dCmp (fun p q => !PyData.eqv p q) okEq x y hp
abbrev dLt := dCmp PySem.W.dataLt okLt
abbrev dGt := dCmp (fun p q => PySem.W.dataLt q p) okLt
abbrev dLe := dCmp (fun p q => !PySem.W.dataLt q p) okLt
abbrev dGe := dCmp (fun p q => !PySem.W.dataLt p q) okLt
@[simp] theorem dEq_int {i j : Int} {h : DH} : dEq (.int i) (.int j) h = .ok (.bl (i == j)) h := rfl
@[simp] theorem dEq_str {i j : Str} {h : DH} : dEq (.str i) (.str j) h = .ok (.bl (i == j)) h := rfl
@[simp] theorem dEq_bl {i j : Bool} {h : DH} : dEq (.bl i) (.bl j) h = .ok (.bl (i == j)) h := rfl
@[simp] theorem dNe_int {i j : Int} {h : DH} : dNe (.int i) (.int j) h = .ok (.bl (!(i == j))) h := rfl
@[simp] theorem dNe_str {i j : Str} {h : DH} : dNe (.str i) (.str j) h = .ok (.bl (!(i == j))) h := rfl
@[simp] theorem dNe_bl {i j : Bool} {h : DH} : dNe (.bl i) (.bl j) h = .ok (.bl (!(i == j))) h := rfl
theorem not_dec_lt (i j : Int) : (!decide (j < i)) = decide (i ≤ j) := by
  by_cases h : i ≤ j
  · rw [decide_eq_true h, decide_eq_false (by omega)]; rfl
  · rw [decide_eq_false h, decide_eq_true (by omega)]; rfl
@[simp] theorem dLt_int {i j : Int} {h : DH} : dLt (.int i) (.int j) h = .ok (.bl (decide (i < j))) h := by simp [dCmp, toP, okLt, PySem.W.alike, PyData.depth, PySem.W.dataLt_int]
@[simp] theorem dGt_int {i j : Int} {h : DH} : dGt (.int i) (.int j) h = .ok (.bl (decide (j < i))) h := by simp [dCmp, toP, okLt, PySem.W.alike, PyData.depth, PySem.W.dataLt_int]
@[simp] theorem dLe_int {i j : Int} {h : DH} : dLe (.int i) (.int j) h = .ok (.bl (decide (i ≤ j))) h := by simp [dCmp, toP, okLt, PySem.W.alike, PyData.depth, PySem.W.dataLt_int, not_dec_lt]
@[simp] theorem dGe_int {i j : Int} {h : DH} : dGe (.int i) (.int j) h = .ok (.bl (decide (j ≤ i))) h := by simp [dCmp, toP, okLt, PySem.W.alike, PyData.depth, PySem.W.dataLt_int, not_dec_lt]
def rCmp (K : PySem.W.Frag) (c ok : PyData → PyData → Bool) : R2 := fun x y H Q => ∃ p q, Dp K H x p ∧ Dp K H y q ∧ ok p q = true ∧ Q (.bl (c p q)) H
section
variable {X : Cx}
theorem od_cmp {W : Wd} {S : Sg} {c ok : PyData → PyData → Bool} : OpD W S (dCmp c ok) (rCmp S.K c ok) := fun Wx σ x y d e H ι hp Q rh h1 h2 o => by
  unfold dCmp at o
  split at o
  · rename_i p q e1 e2
    split at o
    · rename_i hk
      exact ⟨p, q, RV.dp d x p h1 e1, RV.dp e y q h2 e2, hk, o.ok (Stp.refl _ _) rh rv_bl⟩
    · exact o.elim
  · exact o.elim
theorem o_eq0 (hu : X.A.units + 64 < cLine) : OpR X (compareOp .Eq) (rCmp X.K PyData.eqv okEq) := by
  intro pins s σ H x y v u Q I rx ry h
  obtain ⟨p, q, h1, h2, ok, h⟩ := h
  have ok' := Bool.and_eq_true_iff.mp ok
  exact op_eqD hu pins s σ H x y v u Q I rx ry ⟨p, q, h1, h2, ok'.1, ok'.2, h⟩
theorem o_ne0 (hu : X.A.units + 64 < cLine) : OpR X (compareOp .NotEq) (rCmp X.K (fun p q => !PyData.eqv p q) okEq) := by
  intro pins s σ H x y v u Q I rx ry h
  obtain ⟨p, q, h1, h2, ok, h⟩ := h
  have ok' := Bool.and_eq_true_iff.mp ok
  exact op_neD hu pins s σ H x y v u Q I rx ry ⟨p, q, h1, h2, ok'.1, ok'.2, h⟩
def rEqA (K : PySem.W.Frag) : R2 := fun x y H Q => rEq x y H Q ∨ rCmp K PyData.eqv okEq x y H Q
def rNeA (K : PySem.W.Frag) : R2 := fun x y H Q => rNe x y H Q ∨ rCmp K (fun p q => !PyData.eqv p q) okEq x y H Q
theorem o_eq (hu : X.A.units + 64 < cLine) : OpR X (compareOp .Eq) (rEqA X.K) := OpR.or op_eq (o_eq0 hu)
theorem o_ne (hu : X.A.units + 64 < cLine) : OpR X (compareOp .NotEq) (rNeA X.K) := OpR.or op_ne (o_ne0 hu)
theorem od_eq {W : Wd} {S : Sg} : OpD W S dEq (rEqA S.K) := fun Wx σ x y d e H ι hp Q rh h1 h2 o => by
  unfold dEq at o
  split at o
  · rw [h1.int, h2.int]; exact .inl ⟨rfl, by rw [dec_int]; exact o.ok (Stp.refl _ _) rh rv_bl⟩
  · rw [h1.str, h2.str]; exact .inl ⟨rfl, by rw [dec_str]; exact o.ok (Stp.refl _ _) rh rv_bl⟩
  · rw [h1.bl, h2.bl]; exact .inl ⟨rfl, by rw [dec_bl]; exact o.ok (Stp.refl _ _) rh rv_bl⟩
  · exact .inr (od_cmp Wx σ x y _ _ H ι hp Q rh h1 h2 o)
theorem od_ne {W : Wd} {S : Sg} : OpD W S dNe (rNeA S.K) := fun Wx σ x y d e H ι hp Q rh h1 h2 o => by
  unfold dNe at o
  split at o
  · rw [h1.int, h2.int]; exact .inl ⟨rfl, by rw [dec_int]; exact o.ok (Stp.refl _ _) rh rv_bl⟩
  · rw [h1.str, h2.str]; exact .inl ⟨rfl, by rw [dec_str]; exact o.ok (Stp.refl _ _) rh rv_bl⟩
  · rw [h1.bl, h2.bl]; exact .inl ⟨rfl, by rw [dec_bl]; exact o.ok (Stp.refl _ _) rh rv_bl⟩
  · exact .inr (od_cmp Wx σ x y _ _ H ι hp Q rh h1 h2 o)
theorem o_lt (hu : X.A.units + 64 < cLine) : OpR X (compareOp .Lt) (rCmp X.K PySem.W.dataLt okLt) := by
  intro pins s σ H x y v u Q I rx ry h
  obtain ⟨p, q, h1, h2, ok, h⟩ := h
  obtain ⟨as, r1⟩ := Dp.reads I p x v h1 rx
  obtain ⟨bs, r2⟩ := Dp.reads I q y u h2 ry
  obtain ⟨a1, a2, a3⟩ := okLt_of ok
  exact (PySem.W.rcLt_alike p q X.A s v u as bs r1 r2 a1 a2 (by omega)) X.prog X.w X.xe (EP X pins σ Q) ⟨.bl _, H, I, rfl, h⟩
theorem o_gt (hu : X.A.units + 64 < cLine) : OpR X (compareOp .Gt) (rCmp X.K (fun p q => PySem.W.dataLt q p) okLt) := by
  intro pins s σ H x y v u Q I rx ry h
  obtain ⟨p, q, h1, h2, ok, h⟩ := h
  obtain ⟨as, r1⟩ := Dp.reads I p x v h1 rx
  obtain ⟨bs, r2⟩ := Dp.reads I q y u h2 ry
  obtain ⟨a1, a2, a3⟩ := okLt_of ok
  exact (PySem.W.rcGt_alike p q X.A s v u as bs r1 r2 a1 a2 (by omega)) X.prog X.w X.xe (EP X pins σ Q) ⟨.bl _, H, I, rfl, h⟩
theorem o_le (hu : X.A.units + 64 < cLine) : OpR X (compareOp .LtE) (rCmp X.K (fun p q => !PySem.W.dataLt q p) okLt) := by
  intro pins s σ H x y v u Q I rx ry h
  obtain ⟨p, q, h1, h2, ok, h⟩ := h
  obtain ⟨as, r1⟩ := Dp.reads I p x v h1 rx
  obtain ⟨bs, r2⟩ := Dp.reads I q y u h2 ry
  obtain ⟨a1, a2, a3⟩ := okLt_of ok
  exact (PySem.W.rcLe_alike p q X.A s v u as bs r1 r2 a1 a2 (by omega)) X.prog X.w X.xe (EP X pins σ Q) ⟨.bl _, H, I, rfl, h⟩
theorem o_ge (hu : X.A.units + 64 < cLine) : OpR X (compareOp .GtE) (rCmp X.K (fun p q => !PySem.W.dataLt p q) okLt) := by
  intro pins s σ H x y v u Q I rx ry h
  obtain ⟨p, q, h1, h2, ok, h⟩ := h
  obtain ⟨as, r1⟩ := Dp.reads I p x v h1 rx
  obtain ⟨bs, r2⟩ := Dp.reads I q y u h2 ry
  obtain ⟨a1, a2, a3⟩ := okLt_of ok
  exact (PySem.W.rcGe_alike p q X.A s v u as bs r1 r2 a1 a2 (by omega)) X.prog X.w X.xe (EP X pins σ Q) ⟨.bl _, H, I, rfl, h⟩
/-- is None -/
def dIsN (x y : D) (hp : DH) : R D := match x, y with
  | .non, .non => .ok (.bl true) hp
  | _, .non => .ok (.bl false) hp
  | _, _ => .stuck
def dNotN (x y : D) (hp : DH) : R D := match x, y with
  | .non, .non => .ok (.bl false) hp
  | _, .non => .ok (.bl true) hp
  | _, _ => .stuck
theorem rv_ne_non {S : Sg} {H : Hp} {ι : List Addr} {d : D} {v : V} (h : RV S H ι d v) (hd : d ≠ .non) : v ≠ .non := by
  rintro rfl
  cases d <;> simp [RV] at h hd
theorem od_isN {W : Wd} {S : Sg} : OpD W S dIsN (fun x y H Q => y = .non ∧ Q (.bl (decide (x = .non))) H) := fun Wx σ x y d e H ι hp Q rh h1 h2 o => by
  unfold dIsN at o
  split at o
  · refine ⟨h2.non, ?_⟩
    rw [h1.non]; exact o.ok (Stp.refl _ _) rh rv_bl
  · rename_i hn
    refine ⟨h2.non, ?_⟩
    rw [decide_eq_false (rv_ne_non h1 (fun e => hn e))]
    exact o.ok (Stp.refl _ _) rh rv_bl
  · exact o.elim
theorem od_notN {W : Wd} {S : Sg} : OpD W S dNotN (fun x y H Q => y = .non ∧ Q (.bl (!decide (x = .non))) H) := fun Wx σ x y d e H ι hp Q rh h1 h2 o => by
  unfold dNotN at o
  split at o
  · refine ⟨h2.non, ?_⟩
    rw [h1.non]; exact o.ok (Stp.refl _ _) rh rv_bl
  · rename_i hn
    refine ⟨h2.non, ?_⟩
    rw [decide_eq_false (rv_ne_non h1 (fun e => hn e))]
    exact o.ok (Stp.refl _ _) rh rv_bl
  · exact o.elim

/-! ### arithmetic -/
instance (a b : Int) : Decidable (IntMulOk a b) := by unfold IntMulOk; infer_instance
def rMulI : R2 := rI IntMulOk fun i j => .int (i * j)
theorem o_mulI : OpR X (binaryOp .Mult) rMulI := opI fun _ _ _ _ _ _ _ hc q => mul_int q hc
def dAdd (x y : D) (hp : DH) : R D := match x, y with
  | .int i, .int j => .ok (.int (i + j)) hp
  | .str a, .str b => if a.length + b.length ≤ sizeLine then .ok (.str (a ++ b)) hp else .stuck
  | .tup a, .tup b => if a.length + b.length ≤ sizeLine then .ok (.tup (a ++ b)) hp else .stuck
  | .ref a, .ref b => match hp[a]?, hp[b]? with
    | some (.lst xs), some (.lst ys) => if xs.length + ys.length ≤ sizeLine then .ok (.ref hp.length) (hp ++ [.lst (xs ++ ys)]) else .stuck
    | _, _ => .stuck
  | _, _ => .stuck
def dSub (x y : D) (hp : DH) : R D := match x, y with
  | .int i, .int j => .ok (.int (i - j)) hp
  | _, _ => .stuck
def dMul (x y : D) (hp : DH) : R D := match x, y with
  | .int i, .int j => if IntMulOk i j then .ok (.int (i * j)) hp else .stuck
  | _, _ => .stuck
def dDiv (x y : D) (hp : DH) : R D := match x, y with
  | .int i, .int j => if 0 < j ∧ j.natAbs.log2 < 9000 then .ok (.int (i / j)) hp else .stuck
  | _, _ => .stuck
def dMod (x y : D) (hp : DH) : R D := match x, y with
  | .int i, .int j => if 0 < j then .ok (.int (i % j)) hp else .stuck
  | _, _ => .stuck
def dPow (x y : D) (hp : DH) : R D := match x, y with
  | .int i, .int j => if 0 ≤ j ∧ j ≤ 1000000 ∧ i.natAbs < 2 ^ 64 then .ok (.int (i ^ j.toNat)) hp else .stuck
  | _, _ => .stuck
def rAddA (K : PySem.W.Frag) : R2 := fun x y H Q => (((rI0 fun i j => .int (i + j)) x y H Q ∨ (∃ i j, x = .str i ∧ y = .str j ∧ i.length + j.length ≤ sizeLine ∧ Q (.str (i ++ j)) H)) ∨ rCatA K x y H Q) ∨ rCat x y H Q
theorem o_add : OpR X (binaryOp .Add) (rAddA X.K) := OpR.or (OpR.or (OpR.or op_add op_add_str) op_catA) op_cat
theorem od_add {W : Wd} {S : Sg} : OpD W S dAdd (rAddA S.K) := fun Wx σ x y d e H ι hp Q rh h1 h2 o => by
  unfold dAdd at o
  split at o
  · exact .inl (.inl (.inl ⟨_, _, h1.int, h2.int, o.ok (Stp.refl _ _) rh rv_int⟩))
  · split at o
    · rename_i hl
      exact .inl (.inl (.inr ⟨_, _, h1.str, h2.str, hl, o.ok (Stp.refl _ _) rh rv_str⟩))
    · exact o.elim
  · split at o
    · rename_i xs ys hl
      obtain ⟨a, vs, rfl, q1, r1⟩ := h1.tup
      obtain ⟨b, ws, rfl, q2, r2⟩ := h2.tup
      refine .inl (.inr ⟨a, b, vs, ws, rfl, rfl, q1, q2, by rw [r1.length, r2.length]; exact hl, fun e => ?_, fun _ e => ?_, fun _ _ p np => ?_⟩)
      · have l1 := r1.length
        rw [e] at l1
        have : xs = [] := List.length_eq_zero_iff.mp l1.symm
        subst this
        exact o.ok (Stp.refl _ _) rh (by simp only [RV, List.nil_append]; exact ⟨b, ws, rfl, q2, r2⟩)
      · have l1 := r2.length
        rw [e] at l1
        have : ys = [] := List.length_eq_zero_iff.mp l1.symm
        subst this
        exact o.ok (Stp.refl _ _) rh (by simp only [RV, List.append_nil]; exact ⟨a, vs, rfl, q1, r1⟩)
      · have s := Stp.upd (ι := ι) (o := .tup (vs ++ ws)) np
        refine o.ok s (rh.newt np) ?_
        simp only [RV]
        exact ⟨p, _, rfl, SqT.of upd_same, (RVs.mono s.tm s.px _ _ r1).append (RVs.mono s.tm s.px _ _ r2)⟩
    · exact o.elim
  · split at o
    · rename_i xs ys e1 e2
      split at o
      · rename_i hl
        obtain ⟨a, i1, rfl⟩ := h1.ref
        obtain ⟨b, i2, rfl⟩ := h2.ref
        obtain ⟨vs, q1, r1⟩ := rh.lst i1 e1
        obtain ⟨ws, q2, r2⟩ := rh.lst i2 e2
        exact .inr ⟨a, b, vs, ws, rfl, rfl, q1, q2, by rw [r1.length, r2.length]; exact hl, fun p np => alloc_go rh o np (ro_lst np (r1.append r2))⟩
      · exact o.elim
    · exact o.elim
  · exact o.elim
theorem od_sub {W : Wd} {S : Sg} : OpD W S dSub (rI0 fun i j => .int (i - j)) := fun Wx σ x y d e H ι hp Q rh h1 h2 o => by
  unfold dSub at o
  split at o
  · exact ⟨_, _, h1.int, h2.int, o.ok (Stp.refl _ _) rh rv_int⟩
  · exact o.elim
theorem od_mul {W : Wd} {S : Sg} : OpD W S dMul rMulI := fun Wx σ x y d e H ι hp Q rh h1 h2 o => by
  unfold dMul at o
  split at o
  · split at o
    · rename_i hc
      exact ⟨_, _, h1.int, h2.int, hc, o.ok (Stp.refl _ _) rh rv_int⟩
    · exact o.elim
  · exact o.elim
theorem od_div {W : Wd} {S : Sg} : OpD W S dDiv (rI CDivW fun i j => .int (i / j)) := fun Wx σ x y d e H ι hp Q rh h1 h2 o => by
  unfold dDiv at o
  split at o
  · split at o
    · rename_i hc
      exact ⟨_, _, h1.int, h2.int, hc, o.ok (Stp.refl _ _) rh rv_int⟩
    · exact o.elim
  · exact o.elim
theorem od_mod {W : Wd} {S : Sg} : OpD W S dMod (rI (fun _ j => 0 < j) fun i j => .int (i % j)) := fun Wx σ x y d e H ι hp Q rh h1 h2 o => by
  unfold dMod at o
  split at o
  · split at o
    · rename_i hc
      exact ⟨_, _, h1.int, h2.int, hc, o.ok (Stp.refl _ _) rh rv_int⟩
    · exact o.elim
  · exact o.elim
theorem od_pow {W : Wd} {S : Sg} : OpD W S dPow (rI CPow fun i j => .int (i ^ j.toNat)) := fun Wx σ x y d e H ι hp Q rh h1 h2 o => by
  unfold dPow at o
  split at o
  · split at o
    · rename_i hc
      exact ⟨_, _, h1.int, h2.int, hc, o.ok (Stp.refl _ _) rh rv_int⟩
    · exact o.elim
  · exact o.elim
def dNeg (x : D) (hp : DH) : R D := match x with
  | .int i => .ok (.int (-i)) hp
  | _ => .stuck
theorem ud_neg {W : Wd} {S : Sg} : UnD W S dNeg (rU fun i => .int (-i)) := fun Wx σ x d H ι hp Q rh h1 o => by
  unfold dNeg at o
  split at o
  · exact ⟨_, h1.int, o.ok (Stp.refl _ _) rh rv_int⟩
  · exact o.elim

/-! ### truth -/
def dTru (x : D) (hp : DH) : Option Bool := match x with
  | .non => some false
  | .bl b => some b
  | .int i => some (i != 0)
  | .str y => if y.length ≤ sizeLine then some ((y.length : Int) != 0) else none
  | .tup xs => some (!xs.isEmpty)
  | .scr xs => some (!xs.isEmpty)
  | .ref n => match hp[n]? with | some (.lst xs) => some (!xs.isEmpty) | _ => none
def mTru (a : ME) : MG Bool := fun env hp => (a env hp).bind fun x hp => match dTru x hp with | some b => .ok b hp | none => .stuck
theorem isEmpty_rvs {S : Sg} {H : Hp} {ι : List Addr} {ds : List D} {vs : List V} (h : RVs S H ι ds vs) : vs.isEmpty = ds.isEmpty := by
  have := h.length
  cases ds <;> cases vs <;> simp_all
theorem dTru_go {W : Wd} {S : Sg} {H : Hp} {ι : List Addr} {hp : DH} {x : V} {d : D} {b : Bool} (rh : RH W S H ι hp) (h : RV S H ι d x) (e : dTru d hp = some b) : TruV S.K x H b := by
  unfold dTru at e
  split at e
  · cases e; rw [h.non]; rfl
  · cases e; rw [h.bl]; rfl
  · cases e; rw [h.int]; rfl
  · split at e
    · rename_i hl; cases e; rw [h.str]; exact ⟨hl, rfl⟩
    · cases e
  · cases e
    obtain ⟨a, vs, rfl, q, r⟩ := h.tup
    exact .inr (.inl ⟨vs, q, by rw [isEmpty_rvs r]⟩)
  · cases e
    obtain ⟨a, vs, rfl, q, r⟩ := h.scr
    exact .inl ⟨vs, q.sq, by rw [isEmpty_rvs r]⟩
  · split at e
    · rename_i xs hx
      cases e
      obtain ⟨a, i1, rfl⟩ := h.ref
      obtain ⟨vs, q, r⟩ := rh.lst i1 hx
      exact .inl ⟨vs, SqL.of q, by rw [isEmpty_rvs r]⟩
    · cases e
theorem dt_tru {Wx : WX} {a : Expr} {m : ME} (ha : DE X Wx a m) (he : ∀ whole, isTrue a X.env whole = (do let v ← whole; standAt a.pos; holding [v] (truthy v)) := by intro _; rfl) : DT X Wx a (mTru m) :=
  PT.imp (pt_truth ha he) fun σ H Q h => by
    unfold mTru at h
    refine tG_bind h fun env ι d v H1 hp1 rs rh e o => ?_
    split at o
    · rename_i b hb
      exact ⟨b, dTru_go rh e hb, o.ok (Stp.refl _ _) rh rfl⟩
    · exact o.elim
/-- not e as a value -/
theorem d_not {Wx : WX} {a : Expr} {m : ME} {pos : Pos} (ha : DE X Wx a m) : DE X Wx (.UnaryOp .Not a pos) (mNotV (mTru m)) :=
  PE.imp (pe_notT ha) fun σ H Q h => by
    have h2 : tD (wd X) (sg X) Wx (fun env hp => (m env hp).bind fun x hp => match dTru x hp with | some b => .ok (.bl (!b)) hp | none => .stuck) σ H Q := by
      obtain ⟨ι, env, hp, rs, rh, o⟩ := h
      refine ⟨ι, env, hp, rs, rh, ?_⟩
      unfold mNotV mTru at o
      dsimp only at o ⊢
      generalize m env hp = rr at o ⊢
      cases rr with
      | ok a h =>
        rw [R.bind_ok] at o ⊢
        generalize dTru a h = t at o ⊢
        cases t with
        | some b => exact o
        | none => exact o
      | exc x h => exact o
      | stuck => exact o
    refine tG_bind h2 fun env ι d v H1 hp1 rs rh e o => ?_
    split at o
    · rename_i b hb
      exact ⟨b, dTru_go rh e hb, o.ok (Stp.refl _ _) rh rv_bl⟩
    · exact o.elim
end
end DL
namespace DL
open PySem PySem.Spec PyProof.Rows L2

/-! ### built-in functions -/
def mCB (f : List D → DH → R D) (r : MG (List D)) : ME := fun env hp => (r env hp).bind fun ds hp => f ds hp
section
variable {X : Cx} {Wx : WX} {id T : String} {x : Str} {p pos : Pos} {e : Expr} {es : List Expr} {r : List V → Hp → VK → Prop} {f : List D → DH → R D} {m : MG (List D)}
theorem cb_go (hf : CallD (wd X) (sg X) f r) {σ : L2.St} {H : Hp} {Q : VK} (h : tD (wd X) (sg X) Wx (mCB f m) σ H Q) : tCB r (tDs (wd X) (sg X) Wx m) σ H Q :=
  tG_bind (f := fun env ds hp => f ds hp) h fun env ι ds vs H1 hp1 rs rh e o => hf Wx σ vs ds H1 ι hp1 Q rh e o
theorem d_cb (hc : CallR X (.builtin id) r) (hf : CallD (wd X) (sg X) f r) (hg : Gl X x) (hm : X.mg x = none) (hv : bootBuiltins x = some (.builtin id)) (ha : DA X Wx (e :: es) m) (hn : x ≠ "__name__" := by decide) (hdb : (x == ("__debug__" : Str)) = false := by decide)
    (he : starEach (e :: es) X.env = (false, eval e X.env) :: starEach es X.env := by rfl) (hpl : (backTo pos (starEach es X.env)).any (·.1) = false := by rfl) : DE X Wx (.Call (.Name x p) (e :: es) [] pos) (mCB f m) :=
  PE.imp (pe_callB hc hg hm hv ha hn hdb he hpl) fun σ H Q h => cb_go hf h
theorem d_cty (hc : CallR X (.type T) r) (hf : CallD (wd X) (sg X) f r) (hg : Gl X x) (hm : X.mg x = none) (hv : bootBuiltins x = some (.type T)) (ha : DA X Wx (e :: es) m) (hn : x ≠ "__name__" := by decide) (hdb : (x == ("__debug__" : Str)) = false := by decide)
    (he : starEach (e :: es) X.env = (false, eval e X.env) :: starEach es X.env := by rfl) (hpl : (backTo pos (starEach es X.env)).any (·.1) = false := by rfl) : DE X Wx (.Call (.Name x p) (e :: es) [] pos) (mCB f m) :=
  PE.imp (pe_callTy hc hg hm hv ha hn hdb he hpl) fun σ H Q h => cb_go hf h
end
/-- the items of a list, a tuple, the script -/
def itemsD (d : D) (hp : DH) : Option (List D) := match d with
  | .tup ds => some ds
  | .scr ds => some ds
  | .ref n => match hp[n]? with | some (.lst ds) => some ds | _ => none
  | _ => none
theorem items_go {W : Wd} {S : Sg} {H : Hp} {ι : List Addr} {hp : DH} {x : V} {d : D} {ds : List D} (rh : RH W S H ι hp) (h : RV S H ι d x) (e : itemsD d hp = some ds) : ∃ a vs, x = .ref a ∧ (SqL S.K H a vs ∨ SqT S.K H a vs) ∧ RVs S H ι ds vs := by
  unfold itemsD at e
  split at e
  · cases e; obtain ⟨a, vs, rfl, q, r⟩ := h.tup; exact ⟨a, vs, rfl, .inr q, r⟩
  · cases e; obtain ⟨a, vs, rfl, q, r⟩ := h.scr; exact ⟨a, vs, rfl, .inl q.sq, r⟩
  · split at e
    · rename_i n _ ds' hx
      cases e
      obtain ⟨a, i1, rfl⟩ := h.ref
      obtain ⟨vs, q, r⟩ := rh.lst i1 hx
      exact ⟨a, vs, rfl, .inl (SqL.of q), r⟩
    · cases e
  · cases e
theorem RVs.sing {S : Sg} {H : Hp} {ι : List Addr} {d : D} {vs : List V} (h : RVs S H ι [d] vs) : ∃ v, vs = [v] ∧ RV S H ι d v := by
  simp only [RVs] at h
  obtain ⟨v, r, rfl, h1, rfl⟩ := h
  exact ⟨v, rfl, h1⟩
theorem RVs.pair {S : Sg} {H : Hp} {ι : List Addr} {d e : D} {vs : List V} (h : RVs S H ι [d, e] vs) : ∃ v w, vs = [v, w] ∧ RV S H ι d v ∧ RV S H ι e w := by
  simp only [RVs] at h
  obtain ⟨v, r, rfl, h1, w, r2, rfl, h2, rfl⟩ := h
  exact ⟨v, w, rfl, h1, h2⟩
def fLen (ds : List D) (hp : DH) : R D := match ds with
  | [.str x] => if x.length ≤ sizeLine then .ok (.int x.length) hp else .stuck
  | [d] => match itemsD d hp with | some xs => .ok (.int xs.length) hp | none => .stuck
  | _ => .stuck
theorem cd_len {X : Cx} : CallD (wd X) (sg X) fLen (fun xs H Q => ∃ x n, xs = [x] ∧ LenV X.K x H n ∧ Q (.int n) H) := fun Wx σ xs ds H ι hp Q rh h o => by
  unfold fLen at o
  split at o
  · split at o
    · rename_i hl
      obtain ⟨v, rfl, h1⟩ := h.sing
      rw [h1.str]
      exact ⟨_, _, rfl, ⟨hl, rfl⟩, o.ok (Stp.refl _ _) rh rv_int⟩
    · exact o.elim
  · split at o
    · rename_i ys hi
      obtain ⟨v, rfl, h1⟩ := h.sing
      obtain ⟨a, vs, rfl, q, r⟩ := items_go rh h1 hi
      refine ⟨_, ys.length, rfl, ?_, o.ok (Stp.refl _ _) rh rv_int⟩
      rcases q with q | q
      · exact .inl ⟨vs, q, r.length.symm⟩
      · exact .inr ⟨vs, q, r.length.symm⟩
    · exact o.elim
  · exact o.elim
def fAbs (ds : List D) (hp : DH) : R D := match ds with
  | [.int i] => .ok (.int (if i < 0 then -i else i)) hp
  | _ => .stuck
theorem cd_abs {X : Cx} : CallD (wd X) (sg X) fAbs (fun xs H Q => ∃ i, xs = [.int i] ∧ Q (.int (if i < 0 then -i else i)) H) := fun Wx σ xs ds H ι hp Q rh h o => by
  unfold fAbs at o
  split at o
  · obtain ⟨v, rfl, h1⟩ := h.sing
    rw [h1.int]
    exact ⟨_, rfl, o.ok (Stp.refl _ _) rh rv_int⟩
  · exact o.elim
def fInt (ds : List D) (hp : DH) : R D := match ds with
  | [.int i] => .ok (.int i) hp
  | [.bl b] => .ok (.int (if b then 1 else 0)) hp
  | _ => .stuck
theorem cd_int {X : Cx} : CallD (wd X) (sg X) fInt (fun xs H Q => (∃ i, xs = [.int i] ∧ Q (.int i) H) ∨ ∃ k, xs = [.bl k] ∧ Q (.int (if k then 1 else 0)) H) := fun Wx σ xs ds H ι hp Q rh h o => by
  unfold fInt at o
  split at o
  · obtain ⟨v, rfl, h1⟩ := h.sing
    rw [h1.int]
    exact .inl ⟨_, rfl, o.ok (Stp.refl _ _) rh rv_int⟩
  · obtain ⟨v, rfl, h1⟩ := h.sing
    rw [h1.bl]
    exact .inr ⟨_, rfl, o.ok (Stp.refl _ _) rh rv_int⟩
  · exact o.elim
/-- min, max of two ints, or of a list of data -/
def ltP (a b : PyData) : Bool := PySem.W.dataLt a b
def lessD (x y : D) : Bool := match toP x, toP y with | some p, some q => PySem.W.dataLt p q | _, _ => false
def minDs (x : D) (xs : List D) : D := xs.foldl (fun a y => if lessD y a = true then y else a) x
def maxDs (x : D) (xs : List D) : D := xs.foldl (fun a y => if lessD a y = true then y else a) x
def okAll (ps : List PyData) : Bool := (ps.all fun p => ps.all fun q => PySem.W.alike p q) && (ps.all fun p => match p with | .none => false | _ => true) && decide (PyData.depthAll ps ≤ 60)
theorem okAll_of {ps : List PyData} (h : okAll ps = true) : PySem.W.AlikeAll ps ∧ PyData.depthAll ps ≤ 60 := by
  unfold okAll at h
  rw [Bool.and_eq_true, Bool.and_eq_true] at h
  refine ⟨⟨fun x hx y hy => ?_, fun x hx => ?_⟩, of_decide_eq_true h.2⟩
  · exact List.all_eq_true.mp (List.all_eq_true.mp h.1.1 x hx) y hy
  · have := List.all_eq_true.mp h.1.2 x hx
    rintro rfl
    exact Bool.false_ne_true this
theorem toP_minDs : ∀ {xs : List D} {x : D} {p : PyData} {ps : List PyData}, toP x = some p → toPs xs = some ps → toP (minDs x xs) = some (PySem.W.minD p ps) ∧ (minDs x xs = x ∨ minDs x xs ∈ xs)
  | [], x, p, ps, h, h' => by cases h'; exact ⟨h, .inl rfl⟩
  | y :: xs, x, p, ps, h, h' => by
    simp only [toPs] at h'
    obtain ⟨q, e1, e2⟩ := Option.bind_eq_some_iff.mp h'
    obtain ⟨qs, e3, rfl⟩ := Option.map_eq_some_iff.mp e2
    have hl : lessD y x = PySem.W.dataLt q p := by unfold lessD; rw [e1, h]
    unfold minDs PySem.W.minD
    rw [List.foldl_cons, List.foldl_cons, hl]
    by_cases hc : PySem.W.dataLt q p = true
    · rw [if_pos hc, if_pos hc]
      obtain ⟨a, b⟩ := toP_minDs (xs := xs) e1 e3
      refine ⟨a, .inr ?_⟩
      rcases b with b | b
      · show minDs y xs ∈ y :: xs
        rw [b]; exact List.mem_cons_self
      · exact List.mem_cons_of_mem _ b
    · rw [if_neg hc, if_neg hc]
      obtain ⟨a, b⟩ := toP_minDs (xs := xs) h e3
      refine ⟨a, ?_⟩
      rcases b with b | b
      · exact .inl b
      · exact .inr (List.mem_cons_of_mem _ b)
theorem toP_maxDs : ∀ {xs : List D} {x : D} {p : PyData} {ps : List PyData}, toP x = some p → toPs xs = some ps → toP (maxDs x xs) = some (PySem.W.maxD p ps) ∧ (maxDs x xs = x ∨ maxDs x xs ∈ xs)
  | [], x, p, ps, h, h' => by cases h'; exact ⟨h, .inl rfl⟩
  | y :: xs, x, p, ps, h, h' => by
    simp only [toPs] at h'
    obtain ⟨q, e1, e2⟩ := Option.bind_eq_some_iff.mp h'
    obtain ⟨qs, e3, rfl⟩ := Option.map_eq_some_iff.mp e2
    have hl : lessD x y = PySem.W.dataLt p q := by unfold lessD; rw [e1, h]
    unfold maxDs PySem.W.maxD
    rw [List.foldl_cons, List.foldl_cons, hl]
    by_cases hc : PySem.W.dataLt p q = true
    · rw [if_pos hc, if_pos hc]
      obtain ⟨a, b⟩ := toP_maxDs (xs := xs) e1 e3
      refine ⟨a, .inr ?_⟩
      rcases b with b | b
      · show maxDs y xs ∈ y :: xs
        rw [b]; exact List.mem_cons_self
      · exact List.mem_cons_of_mem _ b
    · rw [if_neg hc, if_neg hc]
      obtain ⟨a, b⟩ := toP_maxDs (xs := xs) h e3
      refine ⟨a, ?_⟩
      rcases b with b | b
      · exact .inl b
      · exact .inr (List.mem_cons_of_mem _ b)
def fMin (ds : List D) (hp : DH) : R D := match ds with
  | [.int i, .int j] => .ok (.int (if j < i then j else i)) hp
  | [.ref n] => match hp[n]? with
    | some (.lst (x :: xs)) => match toPs (x :: xs) with
      | some ps => if okAll ps = true then .ok (minDs x xs) hp else .stuck
      | none => .stuck
    | _ => .stuck
  | _ => .stuck
def fMax (ds : List D) (hp : DH) : R D := match ds with
  | [.int i, .int j] => .ok (.int (if j > i then j else i)) hp
  | [.ref n] => match hp[n]? with
    | some (.lst (x :: xs)) => match toPs (x :: xs) with
      | some ps => if okAll ps = true then .ok (maxDs x xs) hp else .stuck
      | none => .stuck
    | _ => .stuck
  | _ => .stuck
/-- min, max over a list of alike data, by values -/
def rBest (K : PySem.W.Frag) (best : PyData → List PyData → PyData) : List V → Hp → VK → Prop := fun vs H Q => ∃ (a : Addr) (xs : List V) (p : PyData) (ps : List PyData), vs = [V.ref a] ∧ SqL K H a xs ∧ DpAll K H xs (p :: ps) ∧ okAll (p :: ps) = true ∧ ∀ (i : Nat) (x : V), xs[i]? = some x → (p :: ps)[i]? = some (best p ps) → Q x H
section
variable {X : Cx}
theorem data_uniq (I : ∀ a b : PyData, PySem.W.alike a b = true → True) : True := trivial
theorem reads_item {h : Heap} : ∀ {us : List Value} {ps : List PyData} {as : List Addr} {i : Nat} {u : Value}, ReadsAll h us ps as → us[i]? = some u → ∃ p bs, ps[i]? = some p ∧ Reads h u p bs
  | _, _, _, i, u, .nil, e => by simp at e
  | _, _, _, 0, u, .cons r t, e => by simp at e; subst e; exact ⟨_, _, rfl, r⟩
  | _, _, _, i + 1, u, .cons r t, e => by
    obtain ⟨p, bs, e1, e2⟩ := reads_item (i := i) t (by simpa using e)
    exact ⟨p, bs, by simpa using e1, e2⟩
theorem dpAll_get {K : PySem.W.Frag} {H : Hp} : ∀ {xs : List V} {ps : List PyData} {i : Nat} {x : V}, DpAll K H xs ps → xs[i]? = some x → ∃ p, ps[i]? = some p ∧ Dp K H x p
  | _, _, i, x, .nil, e => by simp at e
  | _, _, 0, x, .cons r t, e => by simp at e; subst e; exact ⟨_, rfl, r⟩
  | _, _, i + 1, x, .cons r t, e => by
    obtain ⟨p, e1, e2⟩ := dpAll_get (i := i) t (by simpa using e)
    exact ⟨p, by simpa using e1, e2⟩
theorem best_go {best : PyData → List PyData → PyData} {pins : List (Addr × Obj)} {s : Shared} {σ : L2.St} {H : Hp} {Q : VK} {a : Addr} {xs : List V} {p : PyData} {ps : List PyData} (hb : best p ps ∈ p :: ps) (I : Inv X pins σ H s) (d : DpAll X.K H xs (p :: ps)) (ok : okAll (p :: ps) = true)
    (q : ∀ (i : Nat) (x : V), xs[i]? = some x → (p :: ps)[i]? = some (best p ps) → Q x H) {its : List Value} (rv : Vals xs its) {as : List Addr} (hr : ReadsAll s.heap its (p :: ps) as) {i : Nat} {v : Value} {h' : Heap} {tk : Nat} {bs : List Addr} (e : its[i]? = some v) (r : Reads h' v (best p ps) bs) (k : ∀ b o, s.heap.get? b = some o → h'.get? b = some o) :
    EP X pins σ Q v { s with heap := h', toks := tk } := by
  obtain ⟨⟨al, _⟩, _⟩ := okAll_of ok
  obtain ⟨p1, bs1, e1, r1⟩ := reads_item hr e
  obtain ⟨x, ex⟩ : ∃ x, xs[i]? = some x := by
    obtain ⟨hi, _⟩ := List.getElem?_eq_some_iff.mp e
    exact ⟨xs[i]'(by rw [rv.length]; exact hi), List.getElem?_eq_getElem _⟩
  obtain ⟨u, eu, ru⟩ := rv.get ex
  rw [e] at eu; cases eu
  obtain ⟨p2, e2, d2⟩ := dpAll_get d ex
  rw [e1] at e2; cases e2
  have h1 := al p1 (List.mem_of_getElem? e1) _ hb
  have h2 : p1 = best p ps := PySem.W.alike_unique p1 _ v bs1 bs h1 (PySem.W.reads_keeps k r1) r
  exact ⟨x, H, I.kept (t' := tk) k, ru, q i x ex (by rw [e1, h2])⟩
theorem minD_mem : ∀ (ps : List PyData) (p : PyData), PySem.W.minD p ps ∈ p :: ps
  | [], p => List.mem_cons_self
  | q :: ps, p => by
    unfold PySem.W.minD
    rw [List.foldl_cons]
    split
    · exact List.mem_cons_of_mem _ (minD_mem ps q)
    · rcases List.mem_cons.mp (minD_mem ps p) with h | h
      · show PySem.W.minD p ps ∈ _
        rw [h]; exact List.mem_cons_self
      · exact List.mem_cons_of_mem _ (List.mem_cons_of_mem _ h)
theorem maxD_mem : ∀ (ps : List PyData) (p : PyData), PySem.W.maxD p ps ∈ p :: ps
  | [], p => List.mem_cons_self
  | q :: ps, p => by
    unfold PySem.W.maxD
    rw [List.foldl_cons]
    split
    · exact List.mem_cons_of_mem _ (maxD_mem ps q)
    · rcases List.mem_cons.mp (maxD_mem ps p) with h | h
      · show PySem.W.maxD p ps ∈ _
        rw [h]; exact List.mem_cons_self
      · exact List.mem_cons_of_mem _ (List.mem_cons_of_mem _ h)
theorem c_minL (hc : X.calm = true) (hu : X.A.units + 64 < cLine) : CallR X (.builtin "min") (rBest X.K PySem.W.minD) := by
  intro pins s σ H vs us Q I r h
  obtain ⟨a, xs, p, ps, rfl, hs, d, ok, q⟩ := h
  obtain ⟨its, rv, hl, _⟩ := I.list hs
  obtain ⟨al, dp⟩ := okAll_of ok
  obtain ⟨as, hr⟩ := Dp.readsAll I (p :: ps) xs its d rv
  rw [Vals.ref1 r]
  refine PySem.W.min_list_data (I.ok.hd hc) hl.isList (by simpa using hr) al (by omega) fun i v h' tk bs e rd k => ?_
  exact best_go (best := PySem.W.minD) (a := a) (minD_mem ps p) I d ok q rv hr (by simpa using e) rd k
theorem c_maxL (hc : X.calm = true) (hu : X.A.units + 64 < cLine) : CallR X (.builtin "max") (rBest X.K PySem.W.maxD) := by
  intro pins s σ H vs us Q I r h
  obtain ⟨a, xs, p, ps, rfl, hs, d, ok, q⟩ := h
  obtain ⟨its, rv, hl, _⟩ := I.list hs
  obtain ⟨al, dp⟩ := okAll_of ok
  obtain ⟨as, hr⟩ := Dp.readsAll I (p :: ps) xs its d rv
  rw [Vals.ref1 r]
  refine PySem.W.max_list_data (I.ok.hd hc) hl.isList (by simpa using hr) al (by omega) fun i v h' tk bs e rd k => ?_
  exact best_go (best := PySem.W.maxD) (a := a) (maxD_mem ps p) I d ok q rv hr (by simpa using e) rd k
def rMinA (K : PySem.W.Frag) : List V → Hp → VK → Prop := fun xs H Q => (∃ i j, xs = [.int i, .int j] ∧ Q (.int (if j < i then j else i)) H) ∨ rBest K PySem.W.minD xs H Q
def rMaxA (K : PySem.W.Frag) : List V → Hp → VK → Prop := fun xs H Q => (∃ i j, xs = [.int i, .int j] ∧ Q (.int (if j > i then j else i)) H) ∨ rBest K PySem.W.maxD xs H Q
theorem c_min (hc : X.calm = true) (hu : X.A.units + 64 < cLine) : CallR X (.builtin "min") (rMinA X.K) := CallR.or (call_min2 hc) (c_minL hc hu)
theorem c_max (hc : X.calm = true) (hu : X.A.units + 64 < cLine) : CallR X (.builtin "max") (rMaxA X.K) := CallR.or (call_max2 hc) (c_maxL hc hu)
theorem toPs_cons {d : D} {ds : List D} {qs : List PyData} (h : toPs (d :: ds) = some qs) : ∃ p ps, qs = p :: ps ∧ toP d = some p ∧ toPs ds = some ps := by
  simp only [toPs] at h
  obtain ⟨p, e1, e2⟩ := Option.bind_eq_some_iff.mp h
  obtain ⟨qs, e3, rfl⟩ := Option.map_eq_some_iff.mp e2
  exact ⟨p, qs, rfl, e1, e3⟩
theorem best_cd {S : Sg} {H : Hp} {ι : List Addr} {x0 b : D} {xs : List D} {vs : List V} {p q : PyData} {ps : List PyData} (r : RVs S H ι (x0 :: xs) vs) (e : toPs (x0 :: xs) = some (p :: ps)) (hb : toP b = some q) {i : Nat} {x : V} (hx : vs[i]? = some x) (hi : (p :: ps)[i]? = some q) : RV S H ι b x := by
  obtain ⟨d', e1, r1⟩ := r.get' hx
  obtain ⟨p', e2, e3⟩ := toPs_get e e1
  rw [hi] at e2; cases e2
  rw [toP_inj b d' q hb e3]
  exact r1
theorem cd_min : CallD (wd X) (sg X) fMin (rMinA X.K) := fun Wx σ xs ds H ι hp Q rh h o => by
  unfold fMin at o
  split at o
  · obtain ⟨v, w, rfl, h1, h2⟩ := h.pair
    rw [h1.int, h2.int]
    exact .inl ⟨_, _, rfl, o.ok (Stp.refl _ _) rh rv_int⟩
  · split at o
    · rename_i n _ x0 ys hx
      split at o
      · rename_i qs hq
        split at o
        · rename_i ok
          obtain ⟨v, rfl, h1⟩ := h.sing
          obtain ⟨a, i1, rfl⟩ := h1.ref
          obtain ⟨vs, q, r⟩ := rh.lst i1 hx
          obtain ⟨p, ps, rfl, e1, e2⟩ := toPs_cons hq
          refine .inr ⟨a, vs, p, ps, rfl, SqL.of q, RVs.dp _ vs _ r hq, ok, fun i x ex hi => ?_⟩
          exact o.ok (Stp.refl _ _) rh (best_cd r hq (toP_minDs e1 e2).1 ex hi)
        · exact o.elim
      · exact o.elim
    · exact o.elim
  · exact o.elim
theorem cd_max : CallD (wd X) (sg X) fMax (rMaxA X.K) := fun Wx σ xs ds H ι hp Q rh h o => by
  unfold fMax at o
  split at o
  · obtain ⟨v, w, rfl, h1, h2⟩ := h.pair
    rw [h1.int, h2.int]
    exact .inl ⟨_, _, rfl, o.ok (Stp.refl _ _) rh rv_int⟩
  · split at o
    · rename_i n _ x0 ys hx
      split at o
      · rename_i qs hq
        split at o
        · rename_i ok
          obtain ⟨v, rfl, h1⟩ := h.sing
          obtain ⟨a, i1, rfl⟩ := h1.ref
          obtain ⟨vs, q, r⟩ := rh.lst i1 hx
          obtain ⟨p, ps, rfl, e1, e2⟩ := toPs_cons hq
          refine .inr ⟨a, vs, p, ps, rfl, SqL.of q, RVs.dp _ vs _ r hq, ok, fun i x ex hi => ?_⟩
          exact o.ok (Stp.refl _ _) rh (best_cd r hq (toP_maxDs e1 e2).1 ex hi)
        · exact o.elim
      · exact o.elim
    · exact o.elim
  · exact o.elim

/-! ### sum, any, all -/
def intsD : List D → Option (List Int)
  | [] => some []
  | .int i :: ds => (intsD ds).map fun r => i :: r
  | _ => none
theorem intsD_of : ∀ {ds : List D} {ns : List Int}, intsD ds = some ns → ds = ns.map D.int
  | [], ns, h => by cases h; rfl
  | .int i :: ds, ns, h => by
    simp only [intsD] at h
    obtain ⟨r, e, rfl⟩ := Option.map_eq_some_iff.mp h
    rw [intsD_of e]; rfl
  | .non :: _, _, h => by cases h
  | .bl _ :: _, _, h => by cases h
  | .str _ :: _, _, h => by cases h
  | .tup _ :: _, _, h => by cases h
  | .scr _ :: _, _, h => by cases h
  | .ref _ :: _, _, h => by cases h
@[simp] theorem intsD_map : ∀ ns : List Int, intsD (ns.map D.int) = some ns
  | [] => rfl
  | n :: ns => by simp [intsD, intsD_map ns]
def blsD : List D → Option (List Bool)
  | [] => some []
  | .bl i :: ds => (blsD ds).map fun r => i :: r
  | _ => none
theorem blsD_of : ∀ {ds : List D} {ns : List Bool}, blsD ds = some ns → ds = ns.map D.bl
  | [], ns, h => by cases h; rfl
  | .bl i :: ds, ns, h => by
    simp only [blsD] at h
    obtain ⟨r, e, rfl⟩ := Option.map_eq_some_iff.mp h
    rw [blsD_of e]; rfl
  | .non :: _, _, h => by cases h
  | .int _ :: _, _, h => by cases h
  | .str _ :: _, _, h => by cases h
  | .tup _ :: _, _, h => by cases h
  | .scr _ :: _, _, h => by cases h
  | .ref _ :: _, _, h => by cases h
@[simp] theorem blsD_map : ∀ ns : List Bool, blsD (ns.map D.bl) = some ns
  | [] => rfl
  | n :: ns => by simp [blsD, blsD_map ns]
theorem RVs.bls {S : Sg} {H : Hp} {ι : List Addr} : ∀ {ns : List Bool} {vs : List V}, RVs S H ι (ns.map D.bl) vs → vs = ns.map V.bl
  | [], vs, h => by simpa [RVs] using h
  | n :: ns, vs, h => by
    simp only [List.map_cons, RVs, RV] at h
    obtain ⟨v, r, rfl, rfl, h⟩ := h
    rw [RVs.bls h]; rfl
def fSum (ds : List D) (hp : DH) : R D := match ds with
  | [d] => match itemsD d hp with
    | some xs => match intsD xs with | some ns => .ok (.int ns.sum) hp | none => .stuck
    | none => .stuck
  | _ => .stuck
theorem sum_tup {prog : Program} {w : World} {A : Around} {E : Value → Shared → Prop} {s : Shared} {l : Addr} {its : List Value} {ns : List Int} {Q : Value → Shared → Prop} (hh : A.handled = none) (hl : s.heap.IsTuple l its.toArray) (hi : IntsAre its ns)
    (h : ∀ h' tk t', (∀ b o, s.heap.get? b = some o → h'.get? b = some o) → Q (.int ns.sum t') { s with heap := h', toks := tk }) : wpAny (model prog w) A (call (.builtin "sum") [.ref l]) Q E s := by
  obtain ⟨xs, e⟩ := hi.allInts.items
  have hn : numsOf (intItems xs).toList = ns := by rw [← e]; exact hi.numsOf
  rw [nums_intItems] at hn
  rw [e] at hl
  have hlt : l < s.heap.objs.size := by obtain ⟨_, e, _⟩ := hl; exact Heap.lt_size e
  refine call_sum_walkG (wpAny_pyIter_tuple hl ⟨s.heap.objs.size, _, _, _, _, _, numAt xs, rfl, Walks.tuple (A := A.in1) hh _ l (Nat.ne_of_lt hlt) (intItems xs), ⟨⟨_, Heap.get?_push_size _ rfl, rfl, rfl⟩, hl.push _⟩, fun b hb => ?_, (fun _ _ => intItems_at), fun h' tk t' hk => ?_⟩)
  · show b < (s.heap.push _).objs.size
    rw [Heap.size_push]
    rcases List.mem_cons.mp hb with rfl | hb
    · exact Nat.lt_succ_self _
    · rcases List.mem_cons.mp hb with rfl | hb
      · exact Nat.lt_succ_of_lt hlt
      · cases hb
  · have := h h' tk t' fun b o eb => hk b o (fun hb => absurd (Heap.lt_size eb) ((List.mem_singleton.mp hb) ▸ Nat.lt_irrefl _)) (Heap.get?_push_of_some _ eb)
    rw [preSum_eq, List.take_of_length_le (by simp [intItems]), hn]; exact this
def rSumT (K : PySem.W.Frag) : List V → Hp → VK → Prop := fun vs H Q => ∃ (a : Addr) (ns : List Int), vs = [V.ref a] ∧ SqT K H a (ns.map V.int) ∧ Q (.int ns.sum) H
theorem c_sumT (hc : X.calm = true) : CallR X (.builtin "sum") (rSumT X.K) := by
  intro pins s σ H vs us Q I r h
  obtain ⟨a, ns, rfl, hs, q⟩ := h
  obtain ⟨its, rv, hl, _⟩ := I.tuple hs
  rw [Vals.ref1 r]
  exact sum_tup (I.ok.hd hc) hl rv.ints fun h' tk t' hk => ⟨.int _, H, I.kept hk, ⟨_, rfl⟩, q⟩
def rSumA (K : PySem.W.Frag) : List V → Hp → VK → Prop := fun xs H Q => rSum K xs H Q ∨ rSumT K xs H Q
theorem c_sum (hc : X.calm = true) : CallR X (.builtin "sum") (rSumA X.K) := CallR.or (cr_sum hc) (c_sumT hc)
theorem cd_sum : CallD (wd X) (sg X) fSum (rSumA X.K) := fun Wx σ xs ds H ι hp Q rh h o => by
  unfold fSum at o
  split at o
  · split at o
    · rename_i ys hi
      split at o
      · rename_i ns hn
        obtain ⟨v, rfl, h1⟩ := h.sing
        obtain ⟨a, vs, rfl, q, r⟩ := items_go rh h1 hi
        rw [intsD_of hn] at r
        obtain rfl := RVs.ints.mp r
        have z := o.ok (Stp.refl _ _) rh (rv_int (i := ns.sum))
        rcases q with q | q
        · exact .inl ⟨a, ns, rfl, q, z⟩
        · exact .inr ⟨a, ns, rfl, q, z⟩
      · exact o.elim
    · exact o.elim
  · exact o.elim
def fAny (ds : List D) (hp : DH) : R D := match ds with
  | [.ref n] => match hp[n]? with
    | some (.lst xs) => match blsD xs with | some bs => .ok (.bl (bs.any id)) hp | none => .stuck
    | _ => .stuck
  | _ => .stuck
def fAll (ds : List D) (hp : DH) : R D := match ds with
  | [.ref n] => match hp[n]? with
    | some (.lst xs) => match blsD xs with | some bs => .ok (.bl (bs.all id)) hp | none => .stuck
    | _ => .stuck
  | _ => .stuck
theorem cd_any : CallD (wd X) (sg X) fAny (rAny X.K) := fun Wx σ xs ds H ι hp Q rh h o => by
  unfold fAny at o
  split at o
  · split at o
    · rename_i n _ ys hx
      split at o
      · rename_i bs hn
        obtain ⟨v, rfl, h1⟩ := h.sing
        obtain ⟨a, i1, rfl⟩ := h1.ref
        obtain ⟨vs, q, r⟩ := rh.lst i1 hx
        rw [blsD_of hn] at r
        obtain rfl := RVs.bls r
        exact ⟨a, bs, rfl, SqL.of q, o.ok (Stp.refl _ _) rh rv_bl⟩
      · exact o.elim
    · exact o.elim
  · exact o.elim
theorem cd_all : CallD (wd X) (sg X) fAll (rAll X.K) := fun Wx σ xs ds H ι hp Q rh h o => by
  unfold fAll at o
  split at o
  · split at o
    · rename_i n _ ys hx
      split at o
      · rename_i bs hn
        obtain ⟨v, rfl, h1⟩ := h.sing
        obtain ⟨a, i1, rfl⟩ := h1.ref
        obtain ⟨vs, q, r⟩ := rh.lst i1 hx
        rw [blsD_of hn] at r
        obtain rfl := RVs.bls r
        exact ⟨a, bs, rfl, SqL.of q, o.ok (Stp.refl _ _) rh rv_bl⟩
      · exact o.elim
    · exact o.elim
  · exact o.elim

/-! ### list(..), tuple(..) -/
def fList (ds : List D) (hp : DH) : R D := match ds with
  | [d] => match itemsD d hp with | some xs => .ok (.ref hp.length) (hp ++ [.lst xs]) | none => .stuck
  | _ => .stuck
def fTuple (ds : List D) (hp : DH) : R D := match ds with
  | [d] => match itemsD d hp with | some xs => .ok (.tup xs) hp | none => .stuck
  | _ => .stuck
theorem cd_list : CallD (wd X) (sg X) fList (fun xs H Q => ∃ p ys, xs = [.ref p] ∧ (SqL X.K H p ys ∨ SqT X.K H p ys) ∧ ∀ l, H l = none → Q (.ref l) (upd H l (.lst ys))) := fun Wx σ xs ds H ι hp Q rh h o => by
  unfold fList at o
  split at o
  · split at o
    · rename_i ys hi
      obtain ⟨v, rfl, h1⟩ := h.sing
      obtain ⟨a, vs, rfl, q, r⟩ := items_go rh h1 hi
      exact ⟨a, vs, rfl, q, fun p np => alloc_go rh o np (ro_lst np r)⟩
    · exact o.elim
  · exact o.elim
theorem cd_tuple : CallD (wd X) (sg X) fTuple (fun xs H Q => ∃ p ys, xs = [.ref p] ∧ ((SqL X.K H p ys ∧ ∀ l, H l = none → Q (.ref l) (upd H l (.tup ys))) ∨ (SqT X.K H p ys ∧ Q (.ref p) H))) := fun Wx σ xs ds H ι hp Q rh h o => by
  unfold fTuple at o
  split at o
  · split at o
    · rename_i ys hi
      obtain ⟨v, rfl, h1⟩ := h.sing
      obtain ⟨a, vs, rfl, q, r⟩ := items_go rh h1 hi
      refine ⟨a, vs, rfl, ?_⟩
      rcases q with q | q
      · refine .inl ⟨q, fun p np => ?_⟩
        have s := Stp.upd (ι := ι) (o := .tup vs) np
        refine o.ok s (rh.newt np) ?_
        simp only [RV]
        exact ⟨p, vs, rfl, SqT.of upd_same, RVs.mono s.tm s.px _ _ r⟩
      · exact .inr ⟨q, o.ok (Stp.refl _ _) rh (by simp only [RV]; exact ⟨a, vs, rfl, q, r⟩)⟩
    · exact o.elim
  · exact o.elim
end
end DL
namespace DL
open PySem PySem.Spec PyProof.Rows L2

/-! ### x[i] -/
def dIx (x y : D) (hp : DH) : R D := match y with
  | .int i => match x with
    | .str z => if z.length ≤ sizeLine then match atI z.cps.toList i with | some c => .ok (.str ⟨#[c]⟩) hp | none => .stuck else .stuck
    | x => match itemsD x hp with
      | some ds => match atI ds i with | some d => .ok d hp | none => .stuck
      | none => .stuck
  | _ => .stuck
theorem RVs.atI {S : Sg} {H : Hp} {ι : List Addr} {ds : List D} {vs : List V} {i : Int} {d : D} (r : RVs S H ι ds vs) (e : L2.atI ds i = some d) : ∃ v, L2.atI vs i = some v ∧ RV S H ι d v := by
  unfold L2.atI at e ⊢
  rw [r.length]
  obtain ⟨j, e1, e2⟩ := Option.bind_eq_some_iff.mp e
  obtain ⟨v, e3, r1⟩ := r.get e2
  exact ⟨v, by rw [e1]; exact e3, r1⟩
theorem od_ix {W : Wd} {S : Sg} : OpD W S dIx (rIx S.K) := fun Wx σ x y d e H ι hp Q rh h1 h2 o => by
  unfold dIx at o
  split at o
  · split at o
    · split at o
      · rename_i hl
        split at o
        · rename_i c hc
          exact .inr (.inr ⟨_, _, _, h1.str, h2.int, hl, hc, o.ok (Stp.refl _ _) rh rv_str⟩)
        · exact o.elim
      · exact o.elim
    · split at o
      · rename_i ds hi
        split at o
        · rename_i d' hd
          obtain ⟨a, vs, rfl, q, r⟩ := items_go rh h1 hi
          obtain ⟨v, hv, rv⟩ := r.atI hd
          have z := o.ok (Stp.refl _ _) rh rv
          rcases q with q | q
          · exact .inl ⟨a, vs, _, v, rfl, h2.int, q, hv, z⟩
          · exact .inr (.inl ⟨a, vs, _, v, rfl, h2.int, q, hv, z⟩)
        · exact o.elim
      · exact o.elim
  · exact o.elim
section
variable {X : Cx} {Wx : WX} {pos p2 : Pos} {a b e : Expr} {ma mb : ME}
theorem d_ix (ha : DE X Wx a ma) (hb : DE X Wx b mb) (hs : PlainIx b) : DE X Wx (.Subscript a b pos) (mOp dIx ma mb) :=
  PE.imp (pe_ix ix_seq ha hb hs) fun _ _ _ h => op_go od_ix h

/-! ### slices -/
abbrev DO_ (X : Cx) (Wx : WX) (e : Option Expr) (m : MG (Option Int)) : Prop := PO X e (tG (wd X) (sg X) Wx (fun _ _ (a b : Option Int) => a = b) m)
theorem PO.imp {X : Cx} {e : Option Expr} {t t' : TO} (h : PO X e t) (i : ∀ σ H Q, t' σ H Q → t σ H Q) : PO X e t' := ⟨fun pins s σ H Q I q => h.run pins s σ H Q I (i σ H Q q)⟩
def mNoP : MG (Option Int) := fun _ hp => .ok none hp
def mPart (a : ME) : MG (Option Int) := fun env hp => (a env hp).bind fun x hp => match x with | .int i => .ok (some i) hp | _ => .stuck
theorem do_none : DO_ X Wx none mNoP := PO.imp po_none fun σ H Q ⟨ι, env, hp, rs, rh, o⟩ => o.ok (Stp.refl _ _) rh rfl
theorem do_some (h : DE X Wx e ma) : DO_ X Wx (some e) (mPart ma) := PO.imp (po_some h) fun σ H Q h => by
  unfold mPart at h
  refine tG_bind h fun env ι d v H1 hp1 rs rh e o => ?_
  split at o
  · exact ⟨_, e.int, o.ok (Stp.refl _ _) rh rfl⟩
  · exact o.elim
def cutD (xs : List D) (lo hi : Option Int) : List D := (xs.drop (HT.sIx xs.length 0 lo)).take (HT.sIx xs.length xs.length hi - HT.sIx xs.length 0 lo)
def dSl (x : D) (lo hi : Option Int) (hp : DH) : R D := match x with
  | .tup ds => .ok (.tup (cutD ds lo hi)) hp
  | .str z => if z.length ≤ sizeLine then .ok (.str (cutS z lo hi)) hp else .stuck
  | .scr ds => .ok (.ref hp.length) (hp ++ [.lst (cutD ds lo hi)])
  | .ref n => match hp[n]? with
    | some (.lst ds) => .ok (.ref hp.length) (hp ++ [.lst (cutD ds lo hi)])
    | _ => .stuck
  | _ => .stuck
def mSl (a : ME) (l h : MG (Option Int)) : ME := fun env hp => (a env hp).bind fun x hp => (l env hp).bind fun lo hp => (h env hp).bind fun hi hp => dSl x lo hi hp
theorem RVs.cut {S : Sg} {H : Hp} {ι : List Addr} {ds : List D} {vs : List V} (r : RVs S H ι ds vs) (lo hi : Option Int) : RVs S H ι (cutD ds lo hi) (cutV vs lo hi) := by
  unfold cutD cutV
  rw [r.length]
  exact (r.drop _).take _
theorem cut_whole {vs : List V} {lo hi : Option Int} (h : HT.sIx vs.length 0 lo = 0 ∧ HT.sIx vs.length vs.length hi = vs.length) : cutV vs lo hi = vs := by
  unfold cutV
  rw [h.1, h.2]
  simp
def rSlX (K : PySem.W.Frag) : V → Option Int → Option Int → Hp → VK → Prop := fun x lo hi H Q => (rSlA K x lo hi H Q ∨ rSlL K x lo hi H Q) ∨ (∃ z, x = .str z ∧ z.length ≤ sizeLine ∧ Q (.str (cutS z lo hi)) H)
theorem d_sl {lo hi : Option Expr} {l h : MG (Option Int)} (hr : SlR X (rSlX X.K)) (ha : DE X Wx a ma) (hl : DO_ X Wx lo l) (hh : DO_ X Wx hi h) : DE X Wx (.Subscript a (.Slice lo hi none p2) pos) (mSl ma l h) :=
  PE.imp (pe_slice hr ha hl hh) fun σ H Q hw => by
    unfold mSl at hw
    refine tG_bind hw fun env ι d v H1 hp1 rs rh e o => ?_
    refine tG_in rs rh (OutG.bind o fun l1 l1' H2 ι2 hp2 s2 rh2 e2 o2 => ?_)
    subst e2
    refine tG_in (rs.mono s2) rh2 (OutG.bind o2 fun l2 l2' H3 ι3 hp3 s3 rh3 e3 o3 => ?_)
    subst e3
    have e' := RV.mono (s2.trans s3).tm (s2.trans s3).px _ _ e
    unfold dSl at o3
    split at o3
    · obtain ⟨b, vs, rfl, q, r⟩ := e'.tup
      refine .inl (.inl ⟨b, vs, rfl, q, fun hw => ?_, fun _ p np => ?_⟩)
      · refine o3.ok (Stp.refl _ _) rh3 ?_
        simp only [RV]
        refine ⟨b, vs, rfl, q, ?_⟩
        have := r.cut l1 l2
        rw [cut_whole hw] at this
        exact this
      · have s := Stp.upd (ι := ι3) (o := .tup (cutV vs l1 l2)) np
        refine o3.ok s (rh3.newt np) ?_
        simp only [RV]
        exact ⟨p, _, rfl, SqT.of upd_same, RVs.mono s.tm s.px _ _ (r.cut l1 l2)⟩
    · split at o3
      · rename_i hz
        exact .inr ⟨_, e'.str, hz, o3.ok (Stp.refl _ _) rh3 rv_str⟩
      · exact o3.elim
    · obtain ⟨b, vs, rfl, q, r⟩ := e'.scr
      exact .inl (.inr ⟨b, vs, rfl, q.sq, fun p np => alloc_go rh3 o3 np (ro_lst np (r.cut l1 l2))⟩)
    · split at o3
      · rename_i n _ ds hx
        obtain ⟨b, i1, rfl⟩ := e'.ref
        obtain ⟨vs, q, r⟩ := rh3.lst i1 hx
        exact .inl (.inr ⟨b, vs, rfl, SqL.of q, fun p np => alloc_go rh3 o3 np (ro_lst np (r.cut l1 l2))⟩)
      · exact o3.elim
    · exact o3.elim
theorem s_slX : SlR X (rSlX X.K) := SlR.or (SlR.or sl_tupA sl_list) sl_str

/-! ### x in xs, flat things; signs in a text -/
def flatD : D → Bool
  | .non | .bl _ | .int _ | .str _ => true
  | _ => false
def eqD0 : D → D → Bool
  | .non, .non => true
  | .bl a, .bl b => a == b
  | .int a, .int b => a == b
  | .str a, .str b => a == b
  | .bl a, .int b => (if a then 1 else 0) == b
  | .int a, .bl b => a == (if b then 1 else 0)
  | _, _ => false
def inD (x : D) (xs : List D) : Bool := xs.any fun y => eqD0 y x
def toV0 : D → V
  | .non => .non
  | .bl b => .bl b
  | .int i => .int i
  | .str x => .str x
  | _ => .non
theorem rv_flat {S : Sg} {H : Hp} {ι : List Addr} {d : D} {v : V} (h : RV S H ι d v) (f : flatD d = true) : v = toV0 d ∧ flatV v = true := by
  cases d with
  | non => rw [h.non]; exact ⟨rfl, rfl⟩
  | bl _ => rw [h.bl]; exact ⟨rfl, rfl⟩
  | int _ => rw [h.int]; exact ⟨rfl, rfl⟩
  | str _ => rw [h.str]; exact ⟨rfl, rfl⟩
  | tup _ => cases f
  | scr _ => cases f
  | ref _ => cases f
theorem rvs_flat {S : Sg} {H : Hp} {ι : List Addr} : ∀ {ds : List D} {vs : List V}, RVs S H ι ds vs → ds.all flatD = true → vs = ds.map toV0 ∧ vs.all flatV = true
  | [], vs, h, _ => by simp only [RVs] at h; subst h; exact ⟨rfl, rfl⟩
  | d :: ds, vs, h, f => by
    simp only [RVs] at h
    obtain ⟨v, r, rfl, h1, h2⟩ := h
    rw [List.all_cons, Bool.and_eq_true] at f
    obtain ⟨e1, e2⟩ := rv_flat h1 f.1
    obtain ⟨e3, e4⟩ := rvs_flat h2 f.2
    rw [e3] at e4 ⊢
    rw [e1] at e2 ⊢
    exact ⟨rfl, by rw [List.all_cons, e2, e4]; rfl⟩
theorem eqD0_eq : ∀ {a b : D}, flatD a = true → flatD b = true → eqV (toV0 a) (toV0 b) = eqD0 a b := by
  intro a b fa fb
  cases a <;> cases b <;> first | rfl | (cases fa; done) | (cases fb; done)
theorem inD_eq {x : D} (fx : flatD x = true) : ∀ {ds : List D}, ds.all flatD = true → inV (toV0 x) (ds.map toV0) = inD x ds
  | [], _ => rfl
  | d :: ds, f => by
    rw [List.all_cons, Bool.and_eq_true] at f
    show (eqV (toV0 d) (toV0 x) || inV (toV0 x) (ds.map toV0)) = (eqD0 d x || inD x ds)
    rw [inD_eq fx f.2, eqD0_eq f.1 fx]
def dIn (neg : Bool) (x y : D) (hp : DH) : R D := match x, y with
  | .str a, .str b => .ok (.bl (if neg then !(!(Builtin.Str.occurrences b a 0 b.length 1).isEmpty) else !(Builtin.Str.occurrences b a 0 b.length 1).isEmpty)) hp
  | x, y => match itemsD y hp with
    | some ds => if flatD x = true ∧ ds.all flatD = true then .ok (.bl (if neg then !inD x ds else inD x ds)) hp else .stuck
    | none => .stuck
def rInA (K : PySem.W.Frag) (neg : Bool) : R2 := fun x y H Q => rIn K neg x y H Q ∨ (∃ i j, x = .str i ∧ y = .str j ∧ Q (.bl (if neg then !(!(Builtin.Str.occurrences j i 0 j.length 1).isEmpty) else !(Builtin.Str.occurrences j i 0 j.length 1).isEmpty)) H)
theorem o_in : OpR X (compareOp .In) (rInA X.K false) := OpR.or op_in_seq op_in_str
theorem o_nin : OpR X (compareOp .NotIn) (rInA X.K true) := OpR.or op_notIn_seq op_notIn_str
theorem od_in {W : Wd} {S : Sg} {neg : Bool} : OpD W S (dIn neg) (rInA S.K neg) := fun Wx σ x y d e H ι hp Q rh h1 h2 o => by
  unfold dIn at o
  split at o
  · exact .inr ⟨_, _, h1.str, h2.str, o.ok (Stp.refl _ _) rh rv_bl⟩
  · split at o
    · rename_i ds hi
      split at o
      · rename_i hf
        obtain ⟨a, vs, rfl, q, r⟩ := items_go rh h2 hi
        obtain ⟨e1, e2⟩ := rv_flat h1 hf.1
        obtain ⟨e3, e4⟩ := rvs_flat r hf.2
        refine .inl ⟨a, vs, rfl, q, e2, e4, ?_⟩
        rw [e3, e1, inD_eq hf.1 hf.2]
        exact o.ok (Stp.refl _ _) rh rv_bl
      · exact o.elim
    · exact o.elim

/-! ### o.m(..), m a method of a built-in type -/
def mBM (ty : D → DH → Bool) (f : D → List D → DH → R D) (o : ME) (r : MG (List D)) : ME := fun env hp => (o env hp).bind fun x hp => if ty x hp = true then (r env hp).bind fun ds hp => f x ds hp else .stuck
def MtD (W : Wd) (S : Sg) (f : D → List D → DH → R D) (r : V → List V → Hp → VK → Prop) : Prop :=
  ∀ (Wx : WX) (σ : L2.St) (x : V) (d : D) (xs : List V) (ds : List D) (H : Hp) (ι : List Addr) (hp : DH) (Q : VK), RH W S H ι hp → RV S H ι d x → RVs S H ι ds xs → OutG W S Wx (RV S) σ H ι (f d ds hp) Q → r x xs H Q
def isLst (d : D) (hp : DH) : Bool := match d with | .ref n => (match hp[n]? with | some (.lst _) => true | _ => false) | _ => false
def isStr (d : D) (_ : DH) : Bool := match d with | .str _ => true | _ => false
def TyD (W : Wd) (S : Sg) (ty : D → DH → Bool) (T : String) : Prop := ∀ (x : V) (d : D) (H : Hp) (ι : List Addr) (hp : DH), RH W S H ι hp → RV S H ι d x → ty d hp = true → tyV S.K T x H
theorem ty_lst {W : Wd} {S : Sg} : TyD W S isLst "list" := fun x d H ι hp rh h e => by
  unfold isLst at e
  split at e
  · split at e
    · rename_i n _ ds hx
      obtain ⟨a, i1, rfl⟩ := h.ref
      obtain ⟨vs, q, r⟩ := rh.lst i1 hx
      exact .inl ⟨rfl, vs, SqL.of q⟩
    · cases e
  · cases e
theorem ty_str {W : Wd} {S : Sg} : TyD W S isStr "str" := fun x d H ι hp rh h e => by
  cases d with
  | str z => rw [h.str]; rfl
  | _ => cases e
theorem bm_go {ty : D → DH → Bool} {T : String} {f : D → List D → DH → R D} {r : V → List V → Hp → VK → Prop} {mr : MG (List D)} (ht : TyD (wd X) (sg X) ty T) (hf : MtD (wd X) (sg X) f r) {σ : L2.St} {H : Hp} {Q : VK} (h : tD (wd X) (sg X) Wx (mBM ty f ma mr) σ H Q) :
    tBM X.K T r (tD (wd X) (sg X) Wx ma) (tDs (wd X) (sg X) Wx mr) σ H Q := by
  unfold mBM at h
  refine tG_bind h fun env ι d v H1 hp1 rs rh e o => ?_
  split at o
  · rename_i hty
    refine ⟨ht v d H1 ι hp1 rh e hty, tG_in rs rh (OutG.bind o fun ds vs H2 ι2 hp2 s2 rh2 e2 o2 => ?_)⟩
    exact hf Wx σ v d vs ds H2 ι2 hp2 Q rh2 (RV.mono s2.tm s2.px _ _ e) e2 o2
  · exact o.elim
theorem bm_go0 {ty : D → DH → Bool} {T : String} {f : D → List D → DH → R D} {r : V → List V → Hp → VK → Prop} (ht : TyD (wd X) (sg X) ty T) (hf : MtD (wd X) (sg X) f r) {σ : L2.St} {H : Hp} {Q : VK} (h : tD (wd X) (sg X) Wx (mBM ty f ma mNil) σ H Q) :
    tBM0 X.K T r (tD (wd X) (sg X) Wx ma) σ H Q := by
  unfold mBM at h
  refine tG_bind h fun env ι d v H1 hp1 rs rh e o => ?_
  split at o
  · rename_i hty
    exact ⟨ht v d H1 ι hp1 rh e hty, hf Wx σ v d [] [] H1 ι hp1 Q rh e (by simp [RVs]) o⟩
  · exact o.elim
theorem d_bm {ty : D → DH → Bool} {T id : String} {name : Str} {apos cpos : Pos} {f : D → List D → DH → R D} {r : V → List V → Hp → VK → Prop} {mr : MG (List D)} {o : Expr} {es : List Expr} (ht : TyD (wd X) (sg X) ty T) (hf : MtD (wd X) (sg X) f r)
    (hp : PE X (.Call (.Attribute o name apos) (e :: es) [] cpos) (tBM X.K T r (tD (wd X) (sg X) Wx ma) (tDs (wd X) (sg X) Wx mr))) : DE X Wx (.Call (.Attribute o name apos) (e :: es) [] cpos) (mBM ty f ma mr) := PE.imp hp fun _ _ _ h => bm_go ht hf h
theorem d_bm0 {ty : D → DH → Bool} {T id : String} {name : Str} {apos cpos : Pos} {f : D → List D → DH → R D} {r : V → List V → Hp → VK → Prop} {o : Expr} (ht : TyD (wd X) (sg X) ty T) (hf : MtD (wd X) (sg X) f r)
    (hp : PE X (.Call (.Attribute o name apos) [] [] cpos) (tBM0 X.K T r (tD (wd X) (sg X) Wx ma))) : DE X Wx (.Call (.Attribute o name apos) [] [] cpos) (mBM ty f ma mNil) := PE.imp hp fun _ _ _ h => bm_go0 ht hf h
theorem wr_go {W : Wd} {S : Sg} {σ : L2.St} {H : Hp} {ι : List Addr} {hp : DH} {n : Nat} {a : Addr} {d : D} {v : V} {ds : List D} {vs : List V} {Q : VK} (rh : RH W S H ι hp) (i1 : ι[n]? = some a) (h : OutG W S Wx (RV S) σ H ι (.ok d (hp.set n (.lst ds))) Q)
    (r : RVs S H ι ds vs) (e : ∀ H', TM H H' → RV S H' ι d v) : Q v (upd H a (.lst vs)) := by
  have hm := List.mem_of_getElem? i1
  have t := rh.tmw (u := .lst vs) hm
  exact h.ok (rh.stpw hm) (rh.write i1 t ⟨vs, upd_same, RVs.mono t (PX.refl _) _ _ r⟩) (e _ t)
def fAppend (x : D) (ds : List D) (hp : DH) : R D := match x, ds with
  | .ref n, [d] => match hp[n]? with
    | some (.lst xs) => if xs.length < sizeLine then .ok .non (hp.set n (.lst (xs ++ [d]))) else .stuck
    | _ => .stuck
  | _, _ => .stuck
theorem md_append {W : Wd} {S : Sg} : MtD W S fAppend rAppend := fun Wx σ x d xs ds H ι hp Q rh h1 h2 o => by
  unfold fAppend at o
  split at o
  · split at o
    · rename_i ys hx
      split at o
      · rename_i hl
        obtain ⟨v, rfl, hv⟩ := h2.sing
        obtain ⟨a, i1, rfl⟩ := h1.ref
        obtain ⟨vs, q, r⟩ := rh.lst i1 hx
        exact ⟨a, vs, v, rfl, rfl, q, by rw [r.length]; exact hl, wr_go rh i1 o (r.append (RVs.one hv)) fun _ _ => rv_non⟩
      · exact o.elim
    · exact o.elim
  · exact o.elim
def fExtend (x : D) (ds : List D) (hp : DH) : R D := match x, ds with
  | .ref n, [.ref m] => match hp[n]?, hp[m]? with
    | some (.lst xs), some (.lst ys) => if xs.length + ys.length ≤ sizeLine then .ok .non (hp.set n (.lst (xs ++ ys))) else .stuck
    | _, _ => .stuck
  | _, _ => .stuck
theorem md_extend {W : Wd} {S : Sg} : MtD W S fExtend rExtend := fun Wx σ x d xs ds H ι hp Q rh h1 h2 o => by
  unfold fExtend at o
  split at o
  · split at o
    · rename_i ys zs hx hy
      split at o
      · rename_i hl
        obtain ⟨v, rfl, hv⟩ := h2.sing
        obtain ⟨a, i1, rfl⟩ := h1.ref
        obtain ⟨b, i2, rfl⟩ := hv.ref
        obtain ⟨vs, q, r⟩ := rh.lst i1 hx
        obtain ⟨ws, q2, r2⟩ := rh.lst i2 hy
        exact ⟨a, b, vs, ws, rfl, rfl, q, q2, by rw [r.length, r2.length]; exact hl, wr_go rh i1 o (r.append r2) fun _ _ => rv_non⟩
      · exact o.elim
    · exact o.elim
  · exact o.elim
theorem RVs.dropLast {S : Sg} {H : Hp} {ι : List Addr} {ds : List D} {vs : List V} (r : RVs S H ι ds vs) : RVs S H ι ds.dropLast vs.dropLast := by
  rw [List.dropLast_eq_take, List.dropLast_eq_take, r.length]
  exact r.take _
def fPop (x : D) (ds : List D) (hp : DH) : R D := match x, ds with
  | .ref n, [] => match hp[n]? with
    | some (.lst xs) => match xs[xs.length - 1]? with | some d => .ok d (hp.set n (.lst xs.dropLast)) | none => .stuck
    | _ => .stuck
  | _, _ => .stuck
theorem md_pop {W : Wd} {S : Sg} : MtD W S fPop rPop := fun Wx σ x d xs ds H ι hp Q rh h1 h2 o => by
  unfold fPop at o
  split at o
  · split at o
    · rename_i ys hx
      split at o
      · rename_i d' hd
        obtain ⟨a, i1, rfl⟩ := h1.ref
        obtain ⟨vs, q, r⟩ := rh.lst i1 hx
        obtain ⟨v, hv, rv⟩ := r.get hd
        simp only [RVs] at h2
        subst h2
        exact ⟨a, vs, v, rfl, rfl, q, by rw [r.length]; exact hv, wr_go rh i1 o r.dropLast fun _ t => RV.mono t (PX.refl _) _ _ rv⟩
      · exact o.elim
    · exact o.elim
  · exact o.elim
theorem RVs.eraseIdx {S : Sg} {H : Hp} {ι : List Addr} : ∀ {ds : List D} {vs : List V} (k : Nat), RVs S H ι ds vs → RVs S H ι (ds.eraseIdx k) (vs.eraseIdx k)
  | [], vs, k, r => by simp only [RVs] at r; subst r; simp [RVs]
  | d :: ds, vs, k, r => by
    simp only [RVs] at r
    obtain ⟨v, r', rfl, h1, h2⟩ := r
    cases k with
    | zero => simpa using h2
    | succ k => simp only [List.eraseIdx_cons_succ, RVs]; exact ⟨v, _, rfl, h1, RVs.eraseIdx k h2⟩
def fPopAt (x : D) (ds : List D) (hp : DH) : R D := match x, ds with
  | .ref n, [.int i] => match hp[n]? with
    | some (.lst xs) => if -(2 ^ 63) ≤ i ∧ i < 2 ^ 63 then match seqIndex? i xs.length with
        | some k => match xs[k]? with | some d => .ok d (hp.set n (.lst (xs.eraseIdx k))) | none => .stuck
        | none => .stuck
      else .stuck
    | _ => .stuck
  | _, _ => .stuck
theorem md_popAt {W : Wd} {S : Sg} : MtD W S fPopAt rPopAt := fun Wx σ x d xs ds H ι hp Q rh h1 h2 o => by
  unfold fPopAt at o
  split at o
  · split at o
    · rename_i ys hx
      split at o
      · rename_i hb
        split at o
        · rename_i k hk
          split at o
          · rename_i d' hd
            obtain ⟨w, rfl, hw⟩ := h2.sing
            obtain ⟨a, i1, rfl⟩ := h1.ref
            obtain ⟨vs, q, r⟩ := rh.lst i1 hx
            obtain ⟨v, hv, rv⟩ := r.get hd
            rw [hw.int]
            exact ⟨a, vs, _, k, v, rfl, rfl, q, hb.1, hb.2, by rw [r.length]; exact hk, hv, wr_go rh i1 o (r.eraseIdx k) fun _ t => RV.mono t (PX.refl _) _ _ rv⟩
          · exact o.elim
        · exact o.elim
      · exact o.elim
    · exact o.elim
  · exact o.elim
def fClear (x : D) (ds : List D) (hp : DH) : R D := match x, ds with
  | .ref n, [] => match hp[n]? with
    | some (.lst _) => .ok .non (hp.set n (.lst []))
    | _ => .stuck
  | _, _ => .stuck
theorem md_clear {W : Wd} {S : Sg} : MtD W S fClear rClear := fun Wx σ x d xs ds H ι hp Q rh h1 h2 o => by
  unfold fClear at o
  split at o
  · split at o
    · rename_i ys hx
      obtain ⟨a, i1, rfl⟩ := h1.ref
      obtain ⟨vs, q, r⟩ := rh.lst i1 hx
      simp only [RVs] at h2
      subst h2
      exact ⟨a, vs, rfl, rfl, q, wr_go (ds := []) rh i1 o (by simp [RVs]) fun _ _ => rv_non⟩
    · exact o.elim
  · exact o.elim

/-! ### xs[i] = e -/
def gIx (o i : ME) : MT := fun d env hp => (o env hp).bind fun x hp => (i env hp).bind fun y hp => match x, y with
  | .ref n, .int k => match hp[n]? with
    | some (.lst xs) => match ixN xs.length k with | some j => .ok env (hp.set n (.lst (xs.set j d))) | none => .stuck
    | _ => .stuck
  | _, _ => .stuck
theorem dg_ix {o i : Expr} {mo mi : ME} (ho : DE X Wx o mo) (hi : DE X Wx i mi) (hg : PG X (.Subscript o i pos) (gSub (tD (wd X) (sg X) Wx mo) (tD (wd X) (sg X) Wx mi) rSetL)) : DG X Wx (.Subscript o i pos) (gIx mo mi) :=
  ⟨fun pins s σ H v u Q I rv ⟨ι, env, hp, d, rs, rh, e, w⟩ => hg.run pins s σ H v u Q I rv (by
    unfold gIx at w
    refine tG_in rs rh (OutG.bind w fun x xv H1 ι1 hp1 s1 rh1 e1 w1 => ?_)
    refine tG_in (rs.mono s1) rh1 (OutG.bind w1 fun y yv H2 ι2 hp2 s2 rh2 e2 w2 => ?_)
    split at w2
    · split at w2
      · rename_i xs hx
        split at w2
        · rename_i j hj
          obtain ⟨a, i1, rfl⟩ := (RV.mono s2.tm s2.px _ _ e1).ref
          obtain ⟨vs, q, r⟩ := rh2.lst i1 hx
          rw [e2.int]
          have hm := List.mem_of_getElem? i1
          have t := rh2.tmw (u := .lst (vs.set j v)) hm
          have e' := RV.mono (s1.trans s2).tm (s1.trans s2).px _ _ e
          refine ⟨a, vs, _, j, rfl, rfl, q, by rw [r.length]; exact hj, ?_⟩
          have s3 := rh2.stpw (u := .lst (vs.set j v)) hm
          exact w2.ok s3 (rh2.write i1 t ⟨_, upd_same, RVs.mono t (PX.refl _) _ _ (r.set j e')⟩) (((rs.mono s1).mono s2).mono s3)
        · exact w2.elim
      · exact w2.elim
    · exact w2.elim)⟩
end
end DL
namespace DL
open PySem PySem.Spec PyProof.Rows L2

/-! ### list comprehensions -/
def compGo (src : Src) (g : MT) (t : MG Bool) (e : ME) : Nat → Nat → List D → En → DH → R (List D)
  | 0, _, _ => fun _ _ => .stuck
  | f + 1, i, acc => fun env hp => match src.at hp i with
    | none => .stuck
    | some none => .ok acc hp
    | some (some d) => (g d env hp).nx.bind fun env1 hp => (t env1 hp).nx.bind fun b hp => if b = true then
        (e env1 hp).nx.bind fun y hp => if acc.length < sizeLine then compGo src g t e f (i + 1) (acc ++ [y]) env hp else .stuck
      else compGo src g t e f (i + 1) acc env hp
def mComp (it : MG Src) (own : List Nat) (g : MT) (t : MG Bool) (e : ME) : ME := fun env hp => (it env hp).bind fun src hp =>
  (compGo src g t e (src.size hp + 1) 0 [] (wipeE env own) hp).bind fun acc hp => .ok (.ref hp.length) (hp ++ [.lst acc])
def mYes : MG Bool := fun _ hp => .ok true hp
section
variable {X : Cx} {Wx : WX} {pos spos : Pos} {elt tg iter : Expr} {ifs : List Expr} {scope : Scope} {own : List (Str × Nat)} {it : MG Src} {g : TG} {m : MT} {mt : MG Bool} {me : ME}
/-- the tests of a comprehension -/
abbrev DTs (X : Cx) (Wx : WX) (ifs : List Expr) (m : MG Bool) : Prop := PTs X ifs (tDb (wd X) (sg X) Wx m)
theorem dts_nil : DTs X Wx [] mYes := ⟨fun pins s σ H Q I ⟨ι, env, hp, rs, rh, o⟩ => pts_nil.run pins s σ H Q I (o.ok (Stp.refl _ _) rh rfl)⟩
theorem dts_one {c : Expr} {m : MG Bool} (h : DT X Wx c m) : DTs X Wx [c] m := pts_one h
theorem wipe_get {σ : L2.St} {i : Nat} : ∀ {vs : List Nat}, (L2.wipe σ vs)[i]? = if i ∈ vs then (if i < σ.length then some none else none) else σ[i]?
  | [] => by simp [L2.wipe]
  | v :: vs => by
    unfold L2.wipe
    rw [List.getElem?_set, wipe_length, wipe_get (vs := vs)]
    by_cases h : v = i
    · subst h
      simp
    · rw [if_neg h]
      have : (i ∈ v :: vs) = (i ∈ vs) := by simp [List.mem_cons, Ne.symm h]
      simp only [this]
theorem wipe_idem {σ : L2.St} {vs : List Nat} : L2.wipe (L2.wipe σ vs) vs = L2.wipe σ vs := by
  refine List.ext_getElem? fun i => ?_
  rw [wipe_get, wipe_get, wipe_length]
  split <;> rfl
abbrev W0 : WX := fun _ _ _ _ => False
theorem comp_go {W : Wd} {S : Sg} (gr : GR W S g m) (kp : Keeps (own.map (·.2)) g) {σ : L2.St} {H : Hp} {Q : VK} (h : tD W S Wx (mComp it (own.map (·.2)) m mt me) σ H Q) :
    tLc (tG W S Wx (SrcIt W S) it) g (tDb W S W0 mt) (tD W S W0 me) (own.map (·.2)) σ H Q := by
  unfold mComp at h
  refine tG_bind h fun env ι src J H1 hp1 rs rh hJ o => fun Da nD => ?_
  have rw1 := rs.wipe (own.map (·.2))
  generalize wipeE env (own.map (·.2)) = envw at o rw1
  have hid : L2.wipe (L2.wipe σ (own.map (·.2))) (own.map (·.2)) = L2.wipe σ (own.map (·.2)) := wipe_idem
  generalize L2.wipe σ (own.map (·.2)) = σw at rw1 hid
  have nDι : Da ∉ ι := fun hm => by
    obtain ⟨u, e, _⟩ := rh.mem hm
    rw [nD] at e; cases e
  refine ⟨fun i k H' => ∃ ι' hp' acc vs, Stp H1 ι H' ι' ∧ RH W S H' ι' hp' ∧ Da ∉ ι' ∧ H' Da = some (.lst vs) ∧ RVs S H' ι' acc vs ∧
    OutG W S Wx (RV S) σ H1 ι ((compGo src m mt me k i acc envw hp').bind fun acc hp => .ok (.ref hp.length) (hp ++ [.lst acc])) Q,
    ⟨_, ι, hp1, [], [], Stp.upd nD, rh.newt nD, nDι, upd_same, by simp [RVs], o⟩, fun i k H' hw => ?_⟩
  obtain ⟨ι', hp', acc, vs, s', rh', nD', hD', ra, o'⟩ := hw
  cases k with
  | zero => exact (show False from o').elim
  | succ k =>
    have hj := hJ H' ι' hp' s' rh' i
    unfold compGo at o'
    split at o'
    · exact (show False from o').elim
    · rename_i hat
      rw [hat] at hj
      refine .inl ⟨hj, ?_⟩
      have rh2 : RH W S H' (ι' ++ [Da]) (hp' ++ [.lst acc]) := by
        refine ⟨by simp [rh'.len], ?_, fun n a o e1 e2 => ?_⟩
        · rw [List.nodup_append]
          refine ⟨rh'.nd, by simp, fun a ha b hb => ?_⟩
          rw [List.mem_singleton.mp hb]
          rintro rfl
          exact nD' ha
        · by_cases hn : n < ι'.length
          · rw [List.getElem?_append_left hn] at e1
            rw [List.getElem?_append_left (by rw [← rh'.len]; exact hn)] at e2
            exact (rh'.obj n a o e1 e2).mono (TM.refl _) (PX.app _ _) rfl
          · rw [List.getElem?_append_right (by omega)] at e1
            rw [List.getElem?_append_right (by rw [← rh'.len]; omega)] at e2
            have hn2 : n - ι'.length = 0 := by
              have := (List.getElem?_eq_some_iff.mp e1).1
              simpa using this
            rw [← rh'.len, hn2] at e2
            rw [hn2] at e1
            simp at e1 e2
            subst e1 e2
            exact ⟨vs, hD', RVs.mono (TM.refl _) (PX.app _ _) _ _ ra⟩
      refine o' (.ref Da) H' (ι' ++ [Da]) (s'.add nD) rh2 ?_
      simp only [RV]
      exact ⟨Da, by rw [← rh'.len]; simp, rfl⟩
    · rename_i d hat
      rw [hat] at hj
      refine .inr ⟨hj.1, fun H2 => ∃ ι' hp' acc vs, Stp H1 ι H2 ι' ∧ RH W S H2 ι' hp' ∧ Da ∉ ι' ∧ H2 Da = some (.lst vs) ∧ RVs S H2 ι' acc vs ∧
        OutG W S Wx (RV S) σ H1 ι ((compGo src m mt me k (i + 1) acc envw hp').bind fun acc hp => .ok (.ref hp.length) (hp ++ [.lst acc])) Q, fun H2 q => ⟨k, Nat.lt_succ_self k, q⟩, fun x H2 hy => ?_⟩
      obtain ⟨s2, rh2, rv2⟩ := hj.2 x H2 hy
      have hD2 := s2.old Da _ nD' hD'
      have kpx := kp x σw H2
      rw [hid] at kpx
      refine kpx _ ?_
      have rsw : RS S H2 ι' envw σw := (rw1.mono s').mono s2
      refine gr.go W0 x d σw H2 ι' envw hp' _ rsw rh2 rv2 ?_
      generalize m d envw hp' = r1 at o'
      cases r1 with
      | stuck => exact (show False from o').elim
      | exc x h => exact (show False from o').elim
      | ok env1 hp3 =>
        intro σ3 H3 ι3 s3 rh3 rs3
        refine tG_in rs3 rh3 ?_
        have o3 : OutG W S Wx (RV S) σ H1 ι (((mt env1 hp3).nx.bind fun b hp => if b = true then (me env1 hp).nx.bind fun y hp => if acc.length < sizeLine then compGo src m mt me k (i + 1) (acc ++ [y]) envw hp else .stuck else compGo src m mt me k (i + 1) acc envw hp).bind fun acc hp => .ok (.ref hp.length) (hp ++ [.lst acc])) Q := o'
        generalize mt env1 hp3 = r2 at o3 ⊢
        cases r2 with
        | stuck => exact (show False from o3).elim
        | exc x h => exact (show False from o3).elim
        | ok b hp4 =>
          intro b' H4 ι4 s4 rh4 eb
          subst eb
          have s24 := (s2.trans s3).trans s4
          have hD4 := s24.old Da _ nD' hD'
          have nD4 : Da ∉ ι4 := fun hm => by
            rcases s24.new Da hm with z | z
            · exact nD' z
            · rw [hD'] at z; cases z
          cases b with
          | false =>
            rw [if_neg Bool.false_ne_true]
            exact ⟨ι4, hp4, acc, vs, s'.trans s24, rh4, nD4, hD4, RVs.mono s24.tm s24.px _ _ ra, o3⟩
          | true =>
            rw [if_pos rfl]
            refine tG_in (rs3.mono s4) rh4 ?_
            have o4 : OutG W S Wx (RV S) σ H1 ι (((me env1 hp4).nx.bind fun y hp => if acc.length < sizeLine then compGo src m mt me k (i + 1) (acc ++ [y]) envw hp else .stuck).bind fun acc hp => .ok (.ref hp.length) (hp ++ [.lst acc])) Q := o3
            generalize me env1 hp4 = r3 at o4 ⊢
            cases r3 with
            | stuck => exact (show False from o4).elim
            | exc x h => exact (show False from o4).elim
            | ok y hp5 =>
              intro yv H5 ι5 s5 rh5 ey
              have s25 := s24.trans s5
              have hD5 := s25.old Da _ nD' hD'
              have nD5 : Da ∉ ι5 := fun hm => by
                rcases s25.new Da hm with z | z
                · exact nD' z
                · rw [hD'] at z; cases z
              have ra5 := RVs.mono s25.tm s25.px _ _ ra
              by_cases hl : acc.length < sizeLine
              · have t : TM H5 (upd H5 Da (.lst (vs ++ [yv]))) := by
                  refine ⟨fun b xs q => ?_, fun b x y q => ?_⟩
                  · rw [upd_ne fun z => ?_]; exact q
                    subst z; rw [hD5] at q; cases q
                  · rw [upd_ne fun z => ?_]; exact q
                    subst z; rw [hD5] at q; cases q
                refine ⟨vs, hD5, by rw [ra.length]; exact hl, ι5, hp5, acc ++ [y], vs ++ [yv], ?_, rh5.keep t fun a ha => upd_ne fun z => nD5 (z ▸ ha), nD5, upd_same, (RVs.mono t (PX.refl _) _ _ ra5).append (RVs.one (RV.mono t (PX.refl _) _ _ ey)), ?_⟩
                · have s15 := s'.trans s25
                  refine ⟨s15.px, s15.tm.trans t, s15.new, fun a o na e => ?_⟩
                  have hne : a ≠ Da := fun z => by rw [z, nD] at e; cases e
                  rw [upd_ne hne]
                  exact s15.old a o na e
                · have o5 : OutG W S Wx (RV S) σ H1 ι ((if acc.length < sizeLine then compGo src m mt me k (i + 1) (acc ++ [y]) envw hp5 else .stuck).bind fun acc hp => .ok (.ref hp.length) (hp ++ [.lst acc])) Q := o4
                  rw [if_pos hl] at o5
                  exact o5
              · have o5 : OutG W S Wx (RV S) σ H1 ι ((if acc.length < sizeLine then compGo src m mt me k (i + 1) (acc ++ [y]) envw hp5 else .stuck).bind fun acc hp => .ok (.ref hp.length) (hp ++ [.lst acc])) Q := o4
                rw [if_neg hl] at o5
                exact (show False from o5).elim
theorem d_lc (hc : X.calm = true) (hN : X.N.Nodup) (hi : DI X Wx tg iter it) (ok : BlkOk X.N X.env.scope scope own) (gr : GR (wd X) (sg X) g m) (kp : Keeps (own.map (·.2)) g)
    (hg : ∀ (s : Shared) (H : Hp) (C : Addr) (cl : List (Str × Addr)) (fp : List Addr), PG (X.blk s H scope (compEnvC scope cl C X.env) fp) tg g) (ht : ∀ (s : Shared) (H : Hp) (C : Addr) (cl : List (Str × Addr)) (fp : List Addr), DTs (X.blk s H scope (compEnvC scope cl C X.env) fp) W0 ifs mt)
    (he : ∀ (s : Shared) (H : Hp) (C : Addr) (cl : List (Str × Addr)) (fp : List Addr), DE (X.blk s H scope (compEnvC scope cl C X.env) fp) W0 elt me) (hs : ∀ x, foldedSetIterable iter X.env x = pure x := by intro _; rfl) :
    DE X Wx (.ListComp elt [⟨tg, iter, ifs, 0⟩] scope pos) (mComp it (own.map (·.2)) m mt me) :=
  PE.imp (pe_lc hc hN hi ok hg ht he hs) fun σ H Q h => comp_go gr kp h
theorem ds_setLc {i : Nat} {y : Str} {py : Pos} (hc : X.calm = true) (hN : X.N.Nodup) (hy : X.N[i]? = some y) (hyl : X.env.scope.names.lookup y = some .local)
    (hsw : swapsWith (.ListComp elt [⟨tg, iter, ifs, 0⟩] scope pos) (some (.Name y py)) spos.line X.env = pure true) (hi : DI X Wx tg iter it) (ok : BlkOk X.N X.env.scope scope own) (gr : GR (wd X) (sg X) g m) (kp : Keeps (own.map (·.2)) g)
    (hg : ∀ (s : Shared) (H : Hp) (C : Addr) (cl : List (Str × Addr)) (fp : List Addr), PG (X.blk s H scope (compEnvC scope cl C X.env) fp) tg g) (ht : ∀ (s : Shared) (H : Hp) (C : Addr) (cl : List (Str × Addr)) (fp : List Addr), DTs (X.blk s H scope (compEnvC scope cl C X.env) fp) W0 ifs mt)
    (he : ∀ (s : Shared) (H : Hp) (C : Addr) (cl : List (Str × Addr)) (fp : List Addr), DE (X.blk s H scope (compEnvC scope cl C X.env) fp) W0 elt me) (hs : ∀ x, foldedSetIterable iter X.env x = pure x := by intro _; rfl) :
    DSt X Wx (.Assign [.Name y py] (.ListComp elt [⟨tg, iter, ifs, 0⟩] scope pos) spos) (mSet i (mComp it (own.map (·.2)) m mt me)) :=
  PS.imp (ps_setLc hc hN hy hyl hsw hi ok hg ht he hs) fun E σ H h => comp_go gr kp (by
    unfold mSet at h
    refine tS_st h fun env ι d v H1 hp1 rs rh e o => ?_
    exact o _ H1 ι (Stp.refl _ _) rh (rs.set e))
end

/-! ### isinstance -/
inductive Tg where
  | ty (n : String) | cl (C : Str)
def tagD (d : D) (hp : DH) : Option Tg := match d with
  | .non => some (.ty "NoneType")
  | .bl _ => some (.ty "bool")
  | .int _ => some (.ty "int")
  | .str _ => some (.ty "str")
  | .tup _ => some (.ty "tuple")
  | .scr _ => none
  | .ref n => match hp[n]? with
    | some (.lst _) => some (.ty "list")
    | some (.ins C _) => some (.cl C)
    | _ => none
def mIsi (tb : List (String × Bool)) (tc : List (Str × Bool)) (o : ME) : ME := fun env hp => (o env hp).bind fun x hp => match tagD x hp with
  | some (.ty n) => match tb.lookup n with | some b => .ok (.bl b) hp | none => .stuck
  | some (.cl C) => match tc.lookup C with | some b => .ok (.bl b) hp | none => .stuck
  | none => .stuck
/-- what isinstance asks of a class of one's own -/
structure IsC (K : PySem.W.Frag) (C : Addr) : Prop where
  cl : Cls K C
  ha : PySem.W.findIn K (.ref C) "__class__" = some (some (.builtin "object.__class__"))
  hn : PySem.W.specialIn K (.builtin "object.__class__") "__get__" = some (some (.builtin "getset_descriptor.__get__"))
  htk : PySem.W.takesIn K (.builtin "object.__class__") = some true
  hm : PySem.W.mroIn K C (.type "object") = some true
theorem lookup_mem {α β : Type} [BEq α] [LawfulBEq α] : ∀ {l : List (α × β)} {a : α} {b : β}, l.lookup a = some b → (a, b) ∈ l
  | [], _, _, h => by simp at h
  | (x, y) :: l, a, b, h => by
    rw [List.lookup_cons] at h
    split at h
    · rename_i e
      cases h
      rw [beq_iff_eq.mp e]; exact List.mem_cons_self
    · exact List.mem_cons_of_mem _ (lookup_mem h)
section
variable {X : Cx} {Wx : WX} {e ce : Expr} {me : ME} {c : V} {u : Value} {tb : List (String × Bool)} {tc : List (Str × Bool)} {p pos : Pos}
theorem isi_go (kc : ClsV c u) (h1 : ∀ q ∈ tb, PySem.W.kitOne X.K (.type q.1) u = some q.2) (h2 : ∀ q ∈ tc, IsC X.K ((sg X).cl q.1) ∧ PySem.W.kitOne X.K (.ref ((sg X).cl q.1)) u = some q.2)
    {σ : L2.St} {H : Hp} {Q : VK} (h : tD (wd X) (sg X) Wx (mIsi tb tc me) σ H Q) : tCB (rIsi X.K) (tCons (tD (wd X) (sg X) Wx me) (tCons (tC c) tNil)) σ H Q := by
  unfold mIsi at h
  refine tG_bind h fun env ι d v H1 hp1 rs rh e o => ?_
  show rIsi X.K [v, c] H1 Q
  split at o
  · rename_i n hn
    split at o
    · rename_i b hb
      have k := h1 _ (lookup_mem hb)
      have z := o.ok (Stp.refl _ _) rh (rv_bl (i := b))
      suffices TyX X.K H1 v (.type n) from ⟨v, c, _, u, b, rfl, kc, this, k, z⟩
      cases d with
      | non => cases hn; rw [e.non]; exact .base .non
      | bl b => cases hn; rw [e.bl]; exact .base (.bl b)
      | int b => cases hn; rw [e.int]; exact .base (.int b)
      | str b => cases hn; rw [e.str]; exact .base (.str b)
      | scr ds => cases hn
      | tup ds =>
        cases hn
        obtain ⟨a, vs, rfl, q, r⟩ := e.tup
        rcases q with (q | ⟨o, q⟩) | ⟨o, its, n, q, hc, _⟩
        · exact .base (.tup q)
        · exact .fTuple q
        · exact .kTuple q hc
      | ref n =>
        simp only [tagD] at hn
        split at hn
        · rename_i ds hx
          cases hn
          obtain ⟨a, i1, rfl⟩ := e.ref
          obtain ⟨vs, q, r⟩ := rh.lst i1 hx
          exact .base (.lst q)
        · cases hn
        · cases hn
    · exact o.elim
  · rename_i C hC
    split at o
    · rename_i b hb
      obtain ⟨k1, k⟩ := h2 _ (lookup_mem hb)
      have z := o.ok (Stp.refl _ _) rh (rv_bl (i := b))
      cases d with
      | ref n =>
        simp only [tagD] at hC
        split at hC
        · cases hC
        · rename_i C' fs hx
          cases hC
          obtain ⟨a, i1, rfl⟩ := e.ref
          obtain ⟨dx, gs, q, r⟩ := rh.obj n a _ i1 hx
          exact ⟨_, c, _, u, b, rfl, kc, .base (.ins q k1.cl k1.ha k1.hn k1.htk k1.hm), k, z⟩
        · cases hC
      | _ => cases hC
    · exact o.elim
  · exact o.elim
theorem d_isi (kc : ClsV c u) (h1 : ∀ q ∈ tb, PySem.W.kitOne X.K (.type q.1) u = some q.2) (h2 : ∀ q ∈ tc, IsC X.K ((sg X).cl q.1) ∧ PySem.W.kitOne X.K (.ref ((sg X).cl q.1)) u = some q.2)
    (hg : Gl X "isinstance") (hm : X.mg "isinstance" = none) (hv : bootBuiltins "isinstance" = some (.builtin "isinstance")) (he : DE X Wx e me) (hc : PE X ce (tC c))
    (h3 : starEach [e, ce] X.env = (false, eval e X.env) :: starEach [ce] X.env := by rfl) (h4 : starEach [ce] X.env = (false, eval ce X.env) :: starEach [] X.env := by rfl)
    (hpl : (backTo pos (starEach [ce] X.env)).any (·.1) = false := by rfl) :
    DE X Wx (.Call (.Name "isinstance" p) [e, ce] [] pos) (mIsi tb tc me) :=
  PE.imp (pe_callB call_isi hg hm hv (pa_cons he (pa_cons hc pa_nil h4) h3) (by decide) (by decide) h3 hpl) fun σ H Q h => isi_go kc h1 h2 h
end
end DL
namespace DL
open PySem PySem.Spec PyProof.Rows L2

/-! ### C.m(..), m a staticmethod -/
structure SMet (K : PySem.W.Frag) (C : Addr) (m : Str) (g : Addr) : Prop where
  ex : ∃ (mc : Value) (p : Addr) (rest : List Value), PySem.W.readsIn K C mc = true ∧ PySem.W.findCls K (.ref C) mc m = some (.get (.builtin "staticmethod.__get__") (.ref p) .none (.ref C)) ∧ PySem.W.recIn K p "staticmethod" = some (.ref g :: rest)
  ga : PySem.W.specialIn K (.ref C) "__getattribute__" = some (some (.builtin "type.__getattribute__"))
  kp : PySem.W.keepIn K (.ref g) = true
section
variable {X : Cx} {Wx : WX} {k np : Nat} {fa C : Addr} {fd : FuncData} {ps : List Str} {run : Rn} {x m : Str} {p pos apos : Pos} {e o : Expr} {es : List Expr} {r : MG (List D)} {pl : Sem Bool}
theorem pe_smeth {t : TA} {sp : Sp} {E : L2.St → XK} (he : PE X o (tC (.ref C))) (sm : SMet X.K C m fa) (F : FnOk X.prog X.w X.K X.mg X.base (L2.CX X.prog X.w) k fa fd ps sp) (hr : Room k X.A) (hb : Binds X.K fd ps []) (hx : ∀ σ, PassesAt (L2.CX X.prog X.w) X σ (E σ)) (ha : PA X (e :: es) t)
    (hst : starEach (e :: es) X.env = (false, eval e X.env) :: starEach es X.env := by rfl) (hpl : (backTo pos (starEach es X.env)).any (·.1) = false := by rfl)
    (ht : eval (.Call (.Attribute o m apos) (e :: es) [] pos) X.env = (do
      let ov ← eval o X.env
      standAt apos.atName
      let (f, first) ← holding [ov] (getMethod ov m pl)
      callWith pos f first (backTo pos (starEach (e :: es) X.env)) (backToKw pos (keywordEach [] X.env))) := by rfl) :
    PE X (.Call (.Attribute o m apos) (e :: es) [] pos) (tCallSD sp [] E t) := by
  refine ⟨fun pins s σ H Q I h => ?_⟩
  refine PySem.W.methodCall_KW (pl := pl) (thn (he.run pins s σ H (fun v H1 => v = .ref C ∧ H1 = H) I ⟨rfl, rfl⟩) fun u s1 ⟨x, H1, I1, rx, ex, eH⟩ => ?_) ht
  subst ex eH
  obtain rfl : u = Value.ref C := rx
  obtain ⟨mc, pr, rest, h1, h2, h3⟩ := sm.ex
  refine PySem.W.method_cls I1.kIn sm.ga (PySem.W.cls_bind I1.kIn h1 h2 (wpAny_call (PySem.W.sm_get (s := { s1 with toks := s1.toks + 1 }) I1.kIn h3 (PySem.W.handed_on rfl ?_))))
  refine PySem.W.callWith_K (h₀ := X.base) I1.ok.mod.kin sm.kp (thn (ha.run pos pins _ σ _ _ (I1.tok _) h) fun us s2 ⟨vs, H2, I2, rv, q⟩ => ⟨I2.kIn, ?_⟩) hst hpl
  exact run_fnSD F hr hb .nil (hx σ) I2 rv q
theorem d_smeth (he : PE X o (tC (.ref C))) (sm : SMet X.K C m fa) (F : FnOk X.prog X.w X.K X.mg X.base (L2.CX X.prog X.w) k fa fd ps (spF (wd X) (sg X) np run)) (c : Cn np run) (hr : Room k X.A) (hb : Binds X.K fd ps []) (tk : Takes X Wx) (ha : DA X Wx (e :: es) r)
    (hst : starEach (e :: es) X.env = (false, eval e X.env) :: starEach es X.env := by rfl) (hpl : (backTo pos (starEach es X.env)).any (·.1) = false := by rfl)
    (ht : eval (.Call (.Attribute o m apos) (e :: es) [] pos) X.env = (do
      let ov ← eval o X.env
      standAt apos.atName
      let (f, first) ← holding [ov] (getMethod ov m pl)
      callWith pos f first (backTo pos (starEach (e :: es) X.env)) (backToKw pos (keywordEach [] X.env))) := by rfl) :
    DE X Wx (.Call (.Attribute o m apos) (e :: es) [] pos) (mCall run r) :=
  PE.imp (pe_smeth he sm F hr hb (fun σ => passAt tk σ) ha hst hpl ht) fun σ H Q h => tG_bind (f := fun env ds hp => run ds hp) h fun env ι ds vs H1 hp1 rs rh e o => by
    show spF _ _ _ _ (vs ++ []) H1 Q _
    rw [List.append_nil]
    exact sp_go c e rh (fun _ _ _ h => h) o
end

/-! ### a + b, a - b of two instances of one class of one's own -/
/-- by class: the def that is run -/
def dOwn (C : Str) (run : Rn) (alt : D → D → DH → R D) (x y : D) (hp : DH) : R D := match x with
  | .ref n => match hp[n]? with
    | some (.ins C' _) => match y with
      | .ref m => match hp[m]? with
        | some (.ins C'' _) => if C' = C ∧ C'' = C then ((run [x, y] hp).nx).bind fun d hp => match d with | .ref n => .ok (.ref n) hp | _ => .stuck else .stuck
        | _ => .stuck
      | _ => .stuck
    | _ => alt x y hp
  | _ => alt x y hp
structure OpC (K : PySem.W.Frag) (C : Addr) (nm : Str) (f : Addr) : Prop where
  sf : PySem.W.selfFirst K C = true
  at_ : PySem.W.findIn K (.ref C) nm = some (some (.ref f))
  fn : PySem.W.isFn K (.ref f) = true
  cl : Cls K C
section
variable {X : Cx} {k : Nat} {fa C : Addr} {fd : FuncData} {ps : List Str} {run : Rn}
def rOwn (C : Addr) (sp : Sp) : R2 := fun x y H Q => ∃ a b dx dy fs gs, x = .ref a ∧ y = .ref b ∧ H a = some (.ins C dx fs) ∧ H b = some (.ins C dy gs) ∧ sp [x, y] H (fun v H' => (∃ c, v = .ref c) ∧ Q v H') E0
theorem o_own {op : Operator} {sp : Sp} (c : OpC X.K C (PySem.dunder op.info.2) fa) (F : FnOk X.prog X.w X.K X.mg X.base (L2.CX X.prog X.w) k fa fd ps sp) (hr : Room k X.A) (hb : Binds X.K fd ps []) : OpR X (binaryOp op) (rOwn C sp) := by
  intro pins s σ H x y v u Q I rx ry h
  obtain ⟨a, b, dx, dy, fs, gs, rfl, rfl, h1, h2, q⟩ := h
  cases rx
  cases ry
  obtain ⟨m, Fr⟩ := I.fr
  obtain ⟨mA, O, _, _, _, _⟩ := ins_get I.hok h1
  obtain ⟨mB, O2, _, _, _, _⟩ := ins_get I.hok h2
  obtain ⟨od, J, _⟩ := O.look
  obtain ⟨od2, J2, _⟩ := O2.look
  refine PySem.W.binop_K Fr I.mod.kin J J2.type c.sf c.at_ c.fn ?_
  have r2 : Vals [V.ref a, V.ref b] [Value.ref a, Value.ref b] := .cons rfl (.cons rfl .nil)
  refine thn (run_fn (Q := fun v H' => (∃ c, v = .ref c) ∧ Q v H') F hr hb .nil passL I r2 (by simpa using q)) fun w s1 hw => ?_
  obtain ⟨vw, H1, I1, rw1, ⟨cc, hc⟩, qv⟩ := hw
  subst hc
  cases rw1
  exact ⟨.ref cc, H1, I1, rfl, qv⟩
theorem od_own {Cn' : Str} {alt : D → D → DH → R D} {r : R2} (cn : Cn 2 run) (hC : C = (sg X).cl Cn') (ha : OpD (wd X) (sg X) alt r) : OpD (wd X) (sg X) (dOwn Cn' run alt) (fun x y H Q => rOwn C (spF (wd X) (sg X) 2 run) x y H Q ∨ r x y H Q) := fun Wx σ x y d e H ι hp Q rh h1 h2 o => by
  unfold dOwn at o
  split at o
  · rename_i n
    split at o
    · rename_i C' fs hx
      split at o
      · rename_i m
        split at o
        · rename_i C'' gs hy
          split at o
          · rename_i hc
            obtain ⟨a, i1, rfl⟩ := h1.ref
            obtain ⟨b, i2, rfl⟩ := h2.ref
            obtain ⟨dx, fv, q1, r1⟩ := rh.obj n a _ i1 hx
            obtain ⟨dy, gv, q2, r2⟩ := rh.obj m b _ i2 hy
            rw [hc.1] at q1
            rw [hc.2] at q2
            refine .inl ⟨a, b, dx, dy, fv, gv, rfl, rfl, by rw [hC]; exact q1, by rw [hC]; exact q2, ?_⟩
            have e3 : RVs (sg X) H ι [.ref n, .ref m] [.ref a, .ref b] := by
              simp only [RVs, RV]
              exact ⟨_, _, rfl, ⟨a, i1, rfl⟩, _, _, rfl, ⟨b, i2, rfl⟩, rfl⟩
            refine sp_go (Wx := fun _ _ _ _ => False) (σ := σ) cn e3 rh (fun _ _ _ h => h) ?_
            generalize run [.ref n, .ref m] hp = rr at o ⊢
            cases rr with
            | stuck => exact (show False from o).elim
            | exc x h => exact (show False from o).elim
            | ok d hp' =>
              cases d with
              | ref n' =>
                intro v H1 ι1 s1 rh1 e1
                obtain ⟨c, _, rfl⟩ := id e1.ref
                exact ⟨⟨c, rfl⟩, o _ H1 ι1 s1 rh1 e1⟩
              | _ => exact (show False from o).elim
          · exact o.elim
        · exact o.elim
      · exact o.elim
    · exact .inr (ha Wx σ x y _ _ H ι hp Q rh h1 h2 o)
  · exact .inr (ha Wx σ x y _ _ H ι hp Q rh h1 h2 o)
end
end DL
namespace DL
open PySem PySem.Spec PyProof.Rows L2

theorem PI.or {X : Cx} {tg e : Expr} {t u : TI} (h : PI X tg e t) (h' : PI X tg e u) : PI X tg e (fun σ H R => t σ H R ∨ u σ H R) :=
  ⟨fun pins s σ H R I q => q.elim (h.run pins s σ H R I) (h'.run pins s σ H R I)⟩
/-- the items of a list, a tuple, the script -/
def srcD (d : D) (hp : DH) : R Src := match d with
  | .ref n => match hp[n]? with | some (.lst _) => .ok (.lst n) hp | _ => .stuck
  | .scr ds => .ok (.its ds) hp
  | .tup ds => .ok (.its ds) hp
  | _ => .stuck
def mSrcA (a : ME) : MG Src := fun env hp => (a env hp).bind srcD
section
variable {X : Cx} {Wx : WX} {tg iter : Expr} {a : ME}
theorem di_any (h : DE X Wx iter a) : DI X Wx tg iter (mSrcA a) := PI.imp (PI.or (di_list (tg := tg) h) (di_tup (tg := tg) h)) fun σ H R ⟨ι, env, hp, rs, rh, o⟩ => by
  have e1 : mSrcA a env hp = mSrc a env hp ∨ mSrcA a env hp = mSrcT a env hp := by
    unfold mSrcA mSrc mSrcT srcD
    generalize a env hp = r
    cases r with
    | stuck => exact .inl rfl
    | exc x h => exact .inl rfl
    | ok d h =>
      cases d with
      | tup ds => exact .inr rfl
      | ref n => exact .inl rfl
      | scr ds => exact .inl rfl
      | _ => exact .inl rfl
  rcases e1 with e1 | e1
  · rw [e1] at o; exact .inl ⟨ι, env, hp, rs, rh, o⟩
  · rw [e1] at o; exact .inr ⟨ι, env, hp, rs, rh, o⟩
theorem dt_chain {op op' : CmpOp} {f g : D → D → DH → R D} {r r' : R2} {a b c : Expr} {ma mb mc : ME} {pos : Pos} (hf : OpD (wd X) (sg X) f r) (hg : OpD (wd X) (sg X) g r')
    (hp : PT X (.Compare a [op, op'] [b, c] pos) (tTest (tChain r r' (tD (wd X) (sg X) Wx ma) (tD (wd X) (sg X) Wx mb) (tD (wd X) (sg X) Wx mc)))) : DT X Wx (.Compare a [op, op'] [b, c] pos) (mTest (mChain f g ma mb mc)) :=
  PT.imp hp fun σ H Q h => by
    have h2 := test_go h
    refine tG_bind (f := fun env x hp => (mb env hp).bind fun y hp => (f x y hp).bind fun z hp => match z with
      | .bl true => (mc env hp).bind fun u hp => g y u hp
      | .bl false => .ok (.bl false) hp
      | _ => .stuck) h2 fun env ι d v H1 hp1 rs rh e o => tG_in rs rh (OutG.bind o fun d2 v2 H2 ι2 hp2 s2 rh2 e2 o2 =>
    hf Wx σ v v2 d d2 H2 ι2 hp2 _ rh2 (RV.mono s2.tm s2.px _ _ e) e2 (OutG.bind o2 fun d3 v3 H3 ι3 hp3 s3 rh3 e3 o3 => by
      split at o3
      · refine ⟨true, e3.bl, ?_⟩
        rw [if_pos rfl]
        refine tG_in ((rs.mono s2).mono s3) rh3 (OutG.bind o3 fun d4 v4 H4 ι4 hp4 s4 rh4 e4 o4 => ?_)
        exact hg Wx σ v2 v4 d2 d4 H4 ι4 hp4 _ rh4 (RV.mono s4.tm s4.px _ _ (RV.mono s3.tm s3.px _ _ e2)) e4 o4
      · refine ⟨false, e3.bl, ?_⟩
        rw [if_neg Bool.false_ne_true]
        exact o3.ok (Stp.refl _ _) rh3 rv_bl
      · exact o3.elim))
end
/-! ### what the top has of a def -/
section
variable {K : PySem.W.Frag} {x qual : Str} {params : Arguments} {body : List Stmt} {scope : Scope} {f : Addr} {oc : Value} {od an : Option Addr} {osl : Array (Option Value)} {kV doc pm cdv ct : Value}
theorem fund_mk (l : K.lookup f = some ⟨oc, od, .func (PySem.W.fnOf x qual params body scope .none kV doc pm an cdv ct), osl⟩) (c : PySem.W.codeIn K cdv qual = true) (k : PySem.W.keepIn K (.ref f) = true) :
    FunD K x qual params body scope [] [] f (PySem.W.fnOf x qual params body scope .none kV doc pm an cdv ct) := ⟨⟨oc, od, .none, kV, doc, pm, an, cdv, ct, osl, rfl, l, c, .inl ⟨rfl, rfl⟩, .inl rfl⟩, k⟩
theorem fundk_mk {Dk : Addr} {kws : List (Str × V)} (l : K.lookup f = some ⟨oc, od, .func (PySem.W.fnOf x qual params body scope .none (.ref Dk) doc pm an cdv ct), osl⟩) (c : PySem.W.codeIn K cdv qual = true) (k : PySem.W.keepIn K (.ref f) = true)
    (hk : ∀ q ∈ kws, ∃ u, PySem.W.nsIn K Dk q.1 = some (some u) ∧ RelV q.2 u) :
    FunD K x qual params body scope [] kws f (PySem.W.fnOf x qual params body scope .none (.ref Dk) doc pm an cdv ct) := ⟨⟨oc, od, .none, .ref Dk, doc, pm, an, cdv, ct, osl, rfl, l, c, .inl ⟨rfl, rfl⟩, .inr ⟨Dk, rfl, hk⟩⟩, k⟩
end
end DL
namespace DL
open PySem PySem.Spec PyProof.Rows L2

/-- what is never come to -/
def mNo : MS := fun _ _ => .stuck
theorem ds_no {X : Cx} {Wx : WX} {st : Stmt} : DSt X Wx st mNo := PS.imp ps_never fun _ _ _ ⟨_, _, _, _, _, o⟩ => o.elim
def mNoE : ME := fun _ _ => .stuck
theorem d_no {X : Cx} {Wx : WX} {e : Expr} : DE X Wx e mNoE := ⟨fun _ _ _ _ _ _ ⟨_, _, _, _, _, o⟩ => o.elim⟩
/-- how many arguments -/
def Ln (n : Nat) (r : MG (List D)) : Prop := ∀ env hp ds hp', r env hp = .ok ds hp' → ds.length = n
theorem ln_nil : Ln 0 mNil := fun env hp ds hp' h => by cases h; rfl
theorem ln_cons {n : Nat} {a : ME} {r : MG (List D)} (h : Ln n r) : Ln (n + 1) (mCons a r) := fun env hp ds hp' e => by
  unfold mCons at e
  cases h1 : a env hp with
  | stuck => rw [h1] at e; cases e
  | exc x hx => rw [h1] at e; cases e
  | ok d hp1 =>
    rw [h1, R.bind_ok] at e
    cases h2 : r env hp1 with
    | stuck => rw [h2] at e; cases e
    | exc x hx => rw [h2] at e; cases e
    | ok ds2 hp2 =>
      rw [h2, R.bind_ok] at e
      cases e
      rw [List.length_cons, h _ _ _ _ h2]
section
variable {K : PySem.W.Frag}
theorem kit_int : ∀ q ∈ [("NoneType", false), ("bool", true), ("int", true), ("str", false), ("tuple", false), ("list", false)], PySem.W.kitOne K (.type q.1) (.type "int") = some q.2 := by
  intro q hq
  simp only [List.mem_cons, List.not_mem_nil, or_false] at hq
  rcases hq with rfl | rfl | rfl | rfl | rfl | rfl <;> exact kit_ty (by decide +kernel)
theorem kit_bool : ∀ q ∈ [("NoneType", false), ("bool", true), ("int", false), ("str", false), ("tuple", false), ("list", false)], PySem.W.kitOne K (.type q.1) (.type "bool") = some q.2 := by
  intro q hq
  simp only [List.mem_cons, List.not_mem_nil, or_false] at hq
  rcases hq with rfl | rfl | rfl | rfl | rfl | rfl <;> exact kit_ty (by decide +kernel)
theorem kit_str : ∀ q ∈ [("NoneType", false), ("bool", false), ("int", false), ("str", true), ("tuple", false), ("list", false)], PySem.W.kitOne K (.type q.1) (.type "str") = some q.2 := by
  intro q hq
  simp only [List.mem_cons, List.not_mem_nil, or_false] at hq
  rcases hq with rfl | rfl | rfl | rfl | rfl | rfl <;> exact kit_ty (by decide +kernel)
theorem kit_tuple : ∀ q ∈ [("NoneType", false), ("bool", false), ("int", false), ("str", false), ("tuple", true), ("list", false)], PySem.W.kitOne K (.type q.1) (.type "tuple") = some q.2 := by
  intro q hq
  simp only [List.mem_cons, List.not_mem_nil, or_false] at hq
  rcases hq with rfl | rfl | rfl | rfl | rfl | rfl <;> exact kit_ty (by decide +kernel)
theorem kit_list : ∀ q ∈ [("NoneType", false), ("bool", false), ("int", false), ("str", false), ("tuple", false), ("list", true)], PySem.W.kitOne K (.type q.1) (.type "list") = some q.2 := by
  intro q hq
  simp only [List.mem_cons, List.not_mem_nil, or_false] at hq
  rcases hq with rfl | rfl | rfl | rfl | rfl | rfl <;> exact kit_ty (by decide +kernel)
end
/-- a def that calls itself, so deep and no deeper -/
def runRec (np n : Nat) (m : Rn → MS) : Nat → Rn
  | 0 => fun _ _ => .stuck
  | k + 1 => run np n (m (runRec np n m k))
theorem cn_at {np n : Nat} {m : Rn → MS} : ∀ k, Cn np (runRec np n m k)
  | 0 => ⟨fun _ _ _ => rfl⟩
  | _ + 1 => cn_run
theorem fn_stuck {P : Program} {w : World} {K : PySem.W.Frag} {mg : Str → Option Value} {base : Heap} {CX : CXT} {k : Nat} {f : Addr} {fd : FuncData} {ps : List Str} {np : Nat} {W : Wd} {S : Sg} : FnOk P w K mg base CX k f fd ps (spF W S np (fun _ _ => .stuck)) :=
  ⟨fun _ _ _ _ ⟨_, _, _, _, _, _, o⟩ => o.elim, fun _ _ _ _ _ _ _ _ _ _ _ _ _ ⟨_, _, _, _, _, _, o⟩ => o.elim⟩
end DL
namespace DL
open PySem PySem.Spec PyProof.Rows L2
def mA0 (r : MG (List D)) : MG (List D) := fun env hp => (r env hp).bind fun vs hp => .ok (vs ++ []) hp

/-! ### the law's own end -/
def spLaw (K : PySem.W.Frag) (ok : List Int → Prop) : Sp := fun vs H Q _ => ∃ (a : Addr) (ns : List Int), vs = [.ref a] ∧ Only H ∧ SqL K H a (ns.map V.int) ∧ ok ns ∧ ∀ H', Q (.bl true) H'
theorem sqF_of {K : PySem.W.Frag} {H : Hp} {a : Addr} {xs : List V} (o : Only H) (h : SqL K H a xs) : SqF K H a xs := by
  rcases h with (h | h) | h
  · rcases o a with z | ⟨ob, ys, z⟩
    · rw [z] at h; cases h
    · rw [z] at h; cases h
  · exact .inl h
  · exact .inr h
theorem law_imp {P : Program} {w : World} {K : PySem.W.Frag} {mg : Str → Option Value} {base : Heap} {k : Nat} {f : Addr} {fd : FuncData} {run : Rn} {ok : List Int → Prop} (F : FnOk P w K mg base (L2.CX P w) k f fd ["script"] (spF ⟨P, w⟩ ⟨K, mg⟩ 1 run))
    (h : ∀ ns, ok ns → ∃ hp, run [.scr (ns.map .int)] [] = .ok (.bl true) hp) : FnOk P w K mg base (L2.CX P w) k f fd ["script"] (spLaw K ok) := by
  refine F.imp fun vs H Q E ⟨a, ns, e, hO, hS, hk, q⟩ => ?_
  subst e
  obtain ⟨hp, e⟩ := h ns hk
  refine ⟨[], [.scr (ns.map .int)], [], ?_, ⟨rfl, List.nodup_nil, fun n a o z => by simp at z⟩, rfl, ?_⟩
  · simp only [RVs, RV]
    exact ⟨_, _, rfl, ⟨a, _, rfl, sqF_of hO hS, RVs.ints.mpr rfl⟩, rfl⟩
  · rw [e]
    intro v H1 ι1 _ _ ev
    rw [ev.bl]
    exact q H1
theorem cx_no {P : Program} {w : World} {H : Hp} {s : Shared} {e : Value} {s' : Shared} (h : L2.CX P w [] H s (fun _ _ _ => False) e s') : False := by
  obtain ⟨_, _, _, _, _, _, _, _, _, _, _, _, z⟩ := h
  exact z
section
variable {K : PySem.W.Frag} {h : Heap} {mg : Str → Option Value}
theorem cl_of {C : Addr} {x : Str} (X : K.In h) (G : h.Ns mainGlobals mg) (e : PySem.W.nsIn K mainGlobals x = some (some (.ref C))) : C = (⟨K, mg⟩ : Sg).cl x := by
  unfold Sg.cl
  rw [show (⟨K, mg⟩ : Sg).mg x = some (.ref C) from PySem.W.mg_of X G e]
theorem all_cons {α : Type} {p : α → Prop} {a : α} {l : List α} (h : p a) (t : ∀ x ∈ l, p x) : ∀ x ∈ a :: l, p x := fun x hx => by
  rcases List.mem_cons.mp hx with e | e
  · subst e; exact h
  · exact t x e
theorem all_nil {α : Type} {p : α → Prop} : ∀ x ∈ ([] : List α), p x := fun _ h => by cases h
end
end DL
/-! reckoning: each form as its head and what is left to do -/
namespace DL
open PySem PySem.Spec PyProof.Rows L2
variable {env : En} {hp : DH}
theorem b_bind {α β : Type} {a : α} {h : DH} {f : α → DH → R β} : (R.ok a h).bind f = f a h := (rfl)
theorem b_st {α : Type} {a : α} {h : DH} {env : En} {k : α → DH → RSt} : (R.ok a h).st env k = k a h := (rfl)
theorem b_nx {α : Type} {a : α} {h : DH} : (R.ok a h).nx = .ok a h := (rfl)
theorem b_thn {env : En} {h : DH} {k : En → DH → RSt} : (RSt.nx env h).th k = k env h := (rfl)
theorem b_thr {d : D} {h : DH} {k : En → DH → RSt} : (RSt.rt d h).th k = .rt d h := (rfl)
theorem b_thb {env : En} {h : DH} {k : En → DH → RSt} : (RSt.bk env h).th k = .bk env h := (rfl)
theorem b_thc {env : En} {h : DH} {k : En → DH → RSt} : (RSt.ct env h).th k = .ct env h := (rfl)
def vGet (o : Option (Option D)) (hp : DH) : R D := match o with | some (some d) => .ok d hp | _ => .stuck
theorem e_var {i : Nat} : mVar i env hp = vGet env[i]? hp := (rfl)
theorem e_vget {d : D} : vGet (some (some d)) hp = .ok d hp := (rfl)
theorem e_c {d : D} : mC d env hp = .ok d hp := (rfl)
def kOp1 (f : D → D → DH → R D) (b : ME) (env : En) : D → DH → R D := fun x hp => (b env hp).bind (f x)
theorem e_op {f a b} : mOp f a b env hp = (a env hp).bind (kOp1 f b env) := (rfl)
theorem e_op1 {f b x} : kOp1 f b env x hp = (b env hp).bind (f x) := (rfl)
theorem e_un {f a} : mUn f a env hp = (a env hp).bind f := (rfl)
theorem e_nil : mNil env hp = .ok [] hp := (rfl)
def kCons2 (x : D) : List D → DH → R (List D) := fun xs hp => .ok (x :: xs) hp
def kCons1 (r : MG (List D)) (env : En) : D → DH → R (List D) := fun x hp => (r env hp).bind (kCons2 x)
theorem e_cons {a r} : mCons a r env hp = (a env hp).bind (kCons1 r env) := (rfl)
theorem e_cons1 {r x} : kCons1 r env x hp = (r env hp).bind (kCons2 x) := (rfl)
theorem e_cons2 {x xs} : kCons2 x xs hp = .ok (x :: xs) hp := (rfl)
def kA0 : List D → DH → R (List D) := fun vs hp => .ok (vs ++ []) hp
theorem e_a0 {r} : mA0 r env hp = (r env hp).bind kA0 := (rfl)
theorem e_ka0 {vs} : kA0 vs hp = .ok vs hp := by simp [kA0]
def kApp2 (xs : List D) : List D → DH → R (List D) := fun ys hp => .ok (xs ++ ys) hp
def kApp1 (t : MG (List D)) (env : En) : List D → DH → R (List D) := fun xs hp => (t env hp).bind (kApp2 xs)
theorem e_app {r t} : mApp r t env hp = (r env hp).bind (kApp1 t env) := (rfl)
theorem e_app1 {t xs} : kApp1 t env xs hp = (t env hp).bind (kApp2 xs) := (rfl)
theorem e_app2 {xs ys} : kApp2 xs ys hp = .ok (xs ++ ys) hp := (rfl)
def kTup : List D → DH → R D := fun xs hp => if xs.length ≤ sizeLine then .ok (.tup xs) hp else .stuck
theorem e_tup {r} : mTup r env hp = (r env hp).bind kTup := (rfl)
theorem kTup_ok {xs : List D} (h : xs.length ≤ sizeLine) : kTup xs hp = .ok (.tup xs) hp := if_pos h
theorem kT1 {a} : kTup [a] hp = .ok (.tup [a]) hp := kTup_ok (by simp [sizeLine])
theorem kT2 {a b} : kTup [a, b] hp = .ok (.tup [a, b]) hp := kTup_ok (by simp [sizeLine])
theorem kT3 {a b c} : kTup [a, b, c] hp = .ok (.tup [a, b, c]) hp := kTup_ok (by simp [sizeLine])
theorem kT4 {a b c d} : kTup [a, b, c, d] hp = .ok (.tup [a, b, c, d]) hp := kTup_ok (by simp [sizeLine])
theorem kT5 {a b c d e} : kTup [a, b, c, d, e] hp = .ok (.tup [a, b, c, d, e]) hp := kTup_ok (by simp [sizeLine])
theorem kT7 {a b c d e f g} : kTup [a, b, c, d, e, f, g] hp = .ok (.tup [a, b, c, d, e, f, g]) hp := kTup_ok (by simp [sizeLine])
def kLst : List D → DH → R D := fun xs hp => if xs.length ≤ sizeLine then .ok (.ref hp.length) (hp ++ [.lst xs]) else .stuck
theorem e_lst {r} : mLst r env hp = (r env hp).bind kLst := (rfl)
theorem kLst_ok {xs : List D} (h : xs.length ≤ sizeLine) : kLst xs hp = .ok (.ref hp.length) (hp ++ [.lst xs]) := if_pos h
theorem kL0 : kLst [] hp = .ok (.ref hp.length) (hp ++ [.lst []]) := kLst_ok (by simp [sizeLine])
theorem kL1 {a} : kLst [a] hp = .ok (.ref hp.length) (hp ++ [.lst [a]]) := kLst_ok (by simp [sizeLine])
theorem kL2 {a b} : kLst [a, b] hp = .ok (.ref hp.length) (hp ++ [.lst [a, b]]) := kLst_ok (by simp [sizeLine])
theorem kL3 {a b c} : kLst [a, b, c] hp = .ok (.ref hp.length) (hp ++ [.lst [a, b, c]]) := kLst_ok (by simp [sizeLine])
theorem kL4 {a b c d} : kLst [a, b, c, d] hp = .ok (.ref hp.length) (hp ++ [.lst [a, b, c, d]]) := kLst_ok (by simp [sizeLine])
theorem kL5 {a b c d e} : kLst [a, b, c, d, e] hp = .ok (.ref hp.length) (hp ++ [.lst [a, b, c, d, e]]) := kLst_ok (by simp [sizeLine])
def kTest : D → DH → R Bool := fun x hp => match x with | .bl b => .ok b hp | _ => .stuck
theorem e_test {a} : mTest a env hp = (a env hp).bind kTest := (rfl)
theorem e_ktest {b} : kTest (.bl b) hp = .ok b hp := (rfl)
def kAnd (b : MG Bool) (env : En) : Bool → DH → R Bool := fun c hp => if c = true then b env hp else .ok false hp
theorem e_and {a b} : mAnd a b env hp = (a env hp).bind (kAnd b env) := (rfl)
theorem e_andT {b} : kAnd b env true hp = b env hp := (rfl)
theorem e_andF {b} : kAnd b env false hp = .ok false hp := (rfl)
def kOr (b : MG Bool) (env : En) : Bool → DH → R Bool := fun c hp => if c = true then .ok true hp else b env hp
theorem e_or {a b} : mOr a b env hp = (a env hp).bind (kOr b env) := (rfl)
theorem e_orT {b} : kOr b env true hp = .ok true hp := (rfl)
theorem e_orF {b} : kOr b env false hp = b env hp := (rfl)
def kNot : Bool → DH → R Bool := fun c hp => .ok (!c) hp
theorem e_not {a} : mNot a env hp = (a env hp).bind kNot := (rfl)
theorem e_knot {c} : kNot c hp = .ok (!c) hp := (rfl)
def kIfE (a b : ME) (env : En) : Bool → DH → R D := fun c hp => if c = true then a env hp else b env hp
theorem e_if {t a b} : mIf t a b env hp = (t env hp).bind (kIfE a b env) := (rfl)
theorem e_ifT {a b} : kIfE a b env true hp = a env hp := (rfl)
theorem e_ifF {a b} : kIfE a b env false hp = b env hp := (rfl)
def kAndV (b : ME) (env : En) : D → DH → R D := fun x hp => match x with | .bl true => b env hp | .bl false => .ok (D.bl false) hp | _ => .stuck
theorem e_andv {a b} : mAndV a b env hp = (a env hp).bind (kAndV b env) := (rfl)
theorem e_andvT {b} : kAndV b env (.bl true) hp = b env hp := (rfl)
theorem e_andvF {b} : kAndV b env (.bl false) hp = .ok (.bl false) hp := (rfl)
def kOrV (b : ME) (env : En) : D → DH → R D := fun x hp => match x with | .bl false => b env hp | .bl true => .ok (D.bl true) hp | _ => .stuck
theorem e_orv {a b} : mOrV a b env hp = (a env hp).bind (kOrV b env) := (rfl)
theorem e_orvT {b} : kOrV b env (.bl true) hp = .ok (.bl true) hp := (rfl)
theorem e_orvF {b} : kOrV b env (.bl false) hp = b env hp := (rfl)
def kNotV : Bool → DH → R D := fun c hp => .ok (.bl (!c)) hp
theorem e_notv {a} : mNotV a env hp = (a env hp).bind kNotV := (rfl)
theorem e_knotv {c} : kNotV c hp = .ok (.bl (!c)) hp := (rfl)
def kCh3 (g : D → D → DH → R D) (c : ME) (env : En) (y : D) : D → DH → R D := fun z hp => match z with
  | .bl true => (c env hp).bind (g y)
  | .bl false => .ok (D.bl false) hp
  | _ => .stuck
def kCh2 (f g : D → D → DH → R D) (c : ME) (env : En) (x : D) : D → DH → R D := fun y hp => (f x y hp).bind (kCh3 g c env y)
def kCh1 (f g : D → D → DH → R D) (b c : ME) (env : En) : D → DH → R D := fun x hp => (b env hp).bind (kCh2 f g c env x)
theorem e_ch {f g a b c} : mChain f g a b c env hp = (a env hp).bind (kCh1 f g b c env) := (rfl)
theorem e_ch1 {f g b c x} : kCh1 f g b c env x hp = (b env hp).bind (kCh2 f g c env x) := (rfl)
theorem e_ch2 {f g c x y} : kCh2 f g c env x y hp = (f x y hp).bind (kCh3 g c env y) := (rfl)
theorem e_ch3T {g c y} : kCh3 g c env y (.bl true) hp = (c env hp).bind (g y) := (rfl)
theorem e_ch3F {g c y} : kCh3 g c env y (.bl false) hp = .ok (.bl false) hp := (rfl)
theorem e_cb {f r} : mCB f r env hp = (r env hp).bind f := (rfl)
theorem e_call {f r} : mCall f r env hp = (r env hp).bind f := (rfl)
theorem e_make {C f r} : mMake C f r env hp = (r env hp).bind (mk C f) := (rfl)
def kFld (cs : List Str) (f : Str) : D → DH → R D := fun x hp => match x with
  | .ref n => match hp[n]? with
    | some (.ins C fs) => if C ∈ cs then match fs.lookup f with | some d => .ok d hp | none => .stuck else .stuck
    | _ => .stuck
  | _ => .stuck
theorem e_fld {cs f o} : mFld cs f o env hp = (o env hp).bind (kFld cs f) := (rfl)
def fldO (cs : List Str) (f : Str) (o : Option DO) (hp : DH) : R D := match o with
    | some (.ins C fs) => if C ∈ cs then match fs.lookup f with | some d => .ok d hp | none => .stuck else .stuck
    | _ => .stuck
theorem e_kfld {cs f n} : kFld cs f (.ref n) hp = fldO cs f hp[n]? hp := (rfl)
def kSetF2 (cs : List Str) (f : Str) (env : En) (y : D) : D → DH → RSt := fun x hp => match x with
  | .ref n => match hp[n]? with
    | some (.ins C fs) => if C ∈ cs ∧ fs.length < 1000 then .nx env (hp.set n (.ins C (putD f y fs))) else .stuck
    | _ => .stuck
  | _ => .stuck
def setO (cs : List Str) (f : Str) (env : En) (y : D) (n : Nat) (o : Option DO) (hp : DH) : RSt := match o with
    | some (.ins C fs) => if C ∈ cs ∧ fs.length < 1000 then .nx env (hp.set n (.ins C (putD f y fs))) else .stuck
    | _ => .stuck
def kSetF1 (cs : List Str) (f : Str) (o : ME) (env : En) : D → DH → RSt := fun y hp => (o env hp).st env (kSetF2 cs f env y)
theorem e_setf {cs f o v} : mSetF cs f o v env hp = (v env hp).st env (kSetF1 cs f o env) := (rfl)
theorem e_setf1 {cs f o y} : kSetF1 cs f o env y hp = (o env hp).st env (kSetF2 cs f env y) := (rfl)
theorem e_setf2 {cs f y n} : kSetF2 cs f env y (.ref n) hp = setO cs f env y n hp[n]? hp := (rfl)
theorem e_seq {a b} : mSeq a b env hp = (a env hp).th b := (rfl)
theorem e_next : mNext env hp = .nx env hp := (rfl)
theorem e_break : mBreak env hp = .bk env hp := (rfl)
theorem e_cont : mCont env hp = .ct env hp := (rfl)
def kNx (env : En) : D → DH → RSt := fun _ hp => .nx env hp
theorem e_expr {a} : mExpr a env hp = (a env hp).st env (kNx env) := (rfl)
theorem e_nx {d} : kNx env d hp = .nx env hp := (rfl)
def kRt : D → DH → RSt := fun d hp => .rt d hp
theorem e_ret {a} : mRet a env hp = (a env hp).st env kRt := (rfl)
theorem e_rt {d} : kRt d hp = .rt d hp := (rfl)
theorem e_retn : mRetN env hp = .rt .non hp := (rfl)
def kIfS (a b : MS) (env : En) : Bool → DH → RSt := fun c hp => if c = true then a env hp else b env hp
theorem e_ifs {c a b} : mIfS c a b env hp = (c env hp).st env (kIfS a b env) := (rfl)
theorem e_ifsT {a b} : kIfS a b env true hp = a env hp := (rfl)
theorem e_ifsF {a b} : kIfS a b env false hp = b env hp := (rfl)
def kSet (i : Nat) (env : En) : D → DH → RSt := fun d hp => .nx (env.set i (some d)) hp
theorem e_set {i a} : mSet i a env hp = (a env hp).st env (kSet i env) := (rfl)
theorem e_kset {i d} : kSet i env d hp = .nx (env.set i (some d)) hp := (rfl)
def kAs2 : En → DH → RSt := fun env hp => .nx env hp
def kAsg (g : MT) (env : En) : D → DH → RSt := fun d hp => (g d env hp).st env kAs2
theorem e_asg {a g} : mAsg a g env hp = (a env hp).st env (kAsg g env) := (rfl)
theorem e_kasg {g d} : kAsg g env d hp = (g d env hp).st env kAs2 := (rfl)
theorem e_as2 : kAs2 env hp = .nx env hp := (rfl)
theorem e_gn {i d} : gN i d env hp = .ok (env.set i (some d)) hp := (rfl)
def gTo (o : Option En) (hp : DH) : R En := match o with | some env => .ok env hp | none => .stuck
theorem e_gtp {is ds} : gTp is (.tup ds) env hp = gTo (gsNames is ds env) hp := by
  unfold gTp gTo
  rcases h : gsNames is ds env with _ | _ <;> simp [h]
theorem e_gto : gTo (some env) hp = .ok env hp := (rfl)
theorem e_gs0 : gsNames [] [] env = some env := (rfl)
theorem e_gs1 {i is d ds} : gsNames (i :: is) (d :: ds) env = gsNames is ds (env.set i (some d)) := (rfl)
def kFor (g : MT) (b : MS) (env : En) : Src → DH → RSt := fun src hp => forGo src g b (src.size hp + 1) 0 env hp
theorem e_for {it g b} : mFor it g b env hp = (it env hp).st env (kFor g b env) := (rfl)
def kRng1 : List D → DH → R Src := fun ds hp => match ds with
  | [.int j] => if -(2 ^ 62) ≤ j ∧ j < 2 ^ 62 then .ok (.rng 0 j.toNat) hp else .stuck
  | _ => .stuck
def kRng2 : List D → DH → R Src := fun ds hp => match ds with
  | [.int i, .int j] => if -(2 ^ 62) ≤ i ∧ i < 2 ^ 62 ∧ -(2 ^ 62) ≤ j ∧ j < 2 ^ 62 then .ok (.rng i (j - i).toNat) hp else .stuck
  | _ => .stuck
theorem e_rng1 {r} : mRng1 r env hp = (r env hp).bind kRng1 := (rfl)
theorem e_rng2 {r} : mRng2 r env hp = (r env hp).bind kRng2 := (rfl)
theorem kRng1_ok {j : Int} (h : -4611686018427387904 ≤ j ∧ j < 4611686018427387904) : kRng1 [.int j] hp = .ok (.rng 0 j.toNat) hp := if_pos (by omega)
theorem kRng2_ok {i j : Int} (h : -4611686018427387904 ≤ i ∧ i < 4611686018427387904 ∧ -4611686018427387904 ≤ j ∧ j < 4611686018427387904) : kRng2 [.int i, .int j] hp = .ok (.rng i (j - i).toNat) hp := if_pos (by omega)
theorem e_srca {a} : mSrcA a env hp = (a env hp).bind srcD := (rfl)
def srcO (n : Nat) (o : Option DO) (hp : DH) : R Src := match o with | some (.lst _) => .ok (.lst n) hp | _ => .stuck
theorem e_srcr {n} : srcD (.ref n) hp = srcO n hp[n]? hp := (rfl)
theorem e_srco {n xs} : srcO n (some (.lst xs)) hp = .ok (.lst n) hp := (rfl)
theorem e_srct {ds} : srcD (.tup ds) hp = .ok (.its ds) hp := (rfl)
theorem e_srcs {ds} : srcD (.scr ds) hp = .ok (.its ds) hp := (rfl)
def kPart : D → DH → R (Option Int) := fun x hp => match x with | .int i => .ok (some i) hp | _ => .stuck
theorem e_nop : mNoP env hp = .ok none hp := (rfl)
theorem e_part {a} : mPart a env hp = (a env hp).bind kPart := (rfl)
theorem e_kpart {i} : kPart (.int i) hp = .ok (some i) hp := (rfl)
def kSl2 (x : D) (h : MG (Option Int)) (env : En) : Option Int → DH → R D := fun lo hp => (h env hp).bind (dSl x lo)
def kSl1 (l h : MG (Option Int)) (env : En) : D → DH → R D := fun x hp => (l env hp).bind (kSl2 x h env)
theorem e_sl {a l h} : mSl a l h env hp = (a env hp).bind (kSl1 l h env) := (rfl)
theorem e_sl1 {l h x} : kSl1 l h env x hp = (l env hp).bind (kSl2 x h env) := (rfl)
theorem e_sl2 {x h lo} : kSl2 x h env lo hp = (h env hp).bind (dSl x lo) := (rfl)
theorem e_dslt {ds lo hi} : dSl (.tup ds) lo hi hp = .ok (.tup (cutD ds lo hi)) hp := (rfl)
def kBM (ty : D → DH → Bool) (f : D → List D → DH → R D) (r : MG (List D)) (env : En) : D → DH → R D := fun x hp => if ty x hp = true then (r env hp).bind (f x) else .stuck
theorem e_bm {ty f o r} : mBM ty f o r env hp = (o env hp).bind (kBM ty f r env) := (rfl)
def bmO (f : D → List D → DH → R D) (r : MG (List D)) (env : En) (n : Nat) (o : Option DO) (hp : DH) : R D := match o with | some (.lst _) => (r env hp).bind (f (.ref n)) | _ => .stuck
theorem e_kbm {f r n} : kBM isLst f r env (.ref n) hp = bmO f r env n hp[n]? hp := by
  unfold kBM bmO isLst
  rcases h : hp[n]? with _ | (_ | _ | _) <;> simp [h]
theorem e_bmo {f r n xs} : bmO f r env n (some (.lst xs)) hp = (r env hp).bind (f (.ref n)) := (rfl)
/-! values -/
theorem e_add {i j : Int} : dAdd (.int i) (.int j) hp = .ok (.int (i + j)) hp := (rfl)
theorem e_sub {i j : Int} : dSub (.int i) (.int j) hp = .ok (.int (i - j)) hp := (rfl)
theorem e_own1 {C run alt} {i : Int} {y : D} : dOwn C run alt (.int i) y hp = alt (.int i) y hp := (rfl)
theorem e_addt {a b : List D} (h : a.length + b.length ≤ sizeLine) : dAdd (.tup a) (.tup b) hp = .ok (.tup (a ++ b)) hp := if_pos h
theorem mulOk_l {i j : Int} (h : -18446744073709551616 < i ∧ i < 18446744073709551616) : IntMulOk i j := IntMulOk.of_left (intBits_le_64 (by omega) (by omega))
theorem mulOk_r {i j : Int} (h : -18446744073709551616 < j ∧ j < 18446744073709551616) : IntMulOk i j := IntMulOk.of_right (intBits_le_64 (by omega) (by omega))
theorem e_mull {i j : Int} (h : -18446744073709551616 < i ∧ i < 18446744073709551616) : dMul (.int i) (.int j) hp = .ok (.int (i * j)) hp := if_pos (mulOk_l h)
theorem e_mulr {i j : Int} (h : -18446744073709551616 < j ∧ j < 18446744073709551616) : dMul (.int i) (.int j) hp = .ok (.int (i * j)) hp := if_pos (mulOk_r h)
theorem e_div {i j : Int} (h : 0 < j) (h2 : j < 18446744073709551616) : dDiv (.int i) (.int j) hp = .ok (.int (i / j)) hp := if_pos ⟨h, by
  have h3 : j.natAbs < 2 ^ 64 := by omega
  rcases Nat.eq_zero_or_pos j.natAbs with h0 | h0
  · rw [h0]; decide
  · have := (Nat.log2_lt (by omega)).mpr h3
    omega⟩
theorem e_mod {i j : Int} (h : 0 < j) : dMod (.int i) (.int j) hp = .ok (.int (i % j)) hp := if_pos h
theorem e_neg {i : Int} : dNeg (.int i) hp = .ok (.int (-i)) hp := (rfl)
theorem okLt_int {i j : Int} : okLt (.int i) (.int j) = true := by simp [okLt, PySem.W.alike, PyData.depth]
theorem e_lt {i j : Int} : dCmp PySem.W.dataLt okLt (.int i) (.int j) hp = .ok (.bl (decide (i < j))) hp := by
  show (if okLt (.int i) (.int j) = true then R.ok (D.bl (PySem.W.dataLt (.int i) (.int j))) hp else .stuck) = _
  rw [if_pos okLt_int, PySem.W.dataLt_int]
theorem e_gt {i j : Int} : dCmp (fun p q => PySem.W.dataLt q p) okLt (.int i) (.int j) hp = .ok (.bl (decide (j < i))) hp := by
  show (if okLt (.int i) (.int j) = true then R.ok (D.bl (PySem.W.dataLt (.int j) (.int i))) hp else .stuck) = _
  rw [if_pos okLt_int, PySem.W.dataLt_int]
theorem e_le {i j : Int} : dCmp (fun p q => !PySem.W.dataLt q p) okLt (.int i) (.int j) hp = .ok (.bl (decide (i ≤ j))) hp := by
  have : (!decide (j < i)) = decide (i ≤ j) := by by_cases h : i ≤ j <;> simp [h] <;> omega
  show (if okLt (.int i) (.int j) = true then R.ok (D.bl (!PySem.W.dataLt (.int j) (.int i))) hp else .stuck) = _
  rw [if_pos okLt_int, PySem.W.dataLt_int, this]
theorem e_ge {i j : Int} : dCmp (fun p q => !PySem.W.dataLt p q) okLt (.int i) (.int j) hp = .ok (.bl (decide (j ≤ i))) hp := by
  have : (!decide (i < j)) = decide (j ≤ i) := by by_cases h : j ≤ i <;> simp [h] <;> omega
  show (if okLt (.int i) (.int j) = true then R.ok (D.bl (!PySem.W.dataLt (.int i) (.int j))) hp else .stuck) = _
  rw [if_pos okLt_int, PySem.W.dataLt_int, this]
theorem e_eq {i j : Int} : dEq (.int i) (.int j) hp = .ok (.bl (decide (i = j))) hp := by
  have : (i == j) = decide (i = j) := by by_cases h : i = j <;> simp [h]
  rw [← this]; rfl
theorem e_ne {i j : Int} : dNe (.int i) (.int j) hp = .ok (.bl (!decide (i = j))) hp := by
  have : (i == j) = decide (i = j) := by by_cases h : i = j <;> simp [h]
  rw [← this]; rfl
theorem e_eqs {i j : Str} : dEq (.str i) (.str j) hp = .ok (.bl (i == j)) hp := (rfl)
theorem e_eqb {i j : Bool} : dEq (.bl i) (.bl j) hp = .ok (.bl (i == j)) hp := (rfl)
def ixR (o : Option D) (hp : DH) : R D := match o with | some d => .ok d hp | none => .stuck
def ixO (i : Int) (o : Option DO) (hp : DH) : R D := match o with | some (.lst ds) => ixR (atI ds i) hp | _ => .stuck
theorem e_ixt {xs : List D} {i : Int} : dIx (.tup xs) (.int i) hp = ixR (atI xs i) hp := (rfl)
theorem e_ixs {xs : List D} {i : Int} : dIx (.scr xs) (.int i) hp = ixR (atI xs i) hp := (rfl)
theorem e_ixr {n : Nat} {i : Int} : dIx (.ref n) (.int i) hp = ixO i hp[n]? hp := by
  unfold dIx ixO itemsD
  rcases h : hp[n]? with _ | (xs | _ | _) <;> simp [h, ixR] <;> rfl
theorem e_ixo {i : Int} {ds} : ixO i (some (.lst ds)) hp = ixR (atI ds i) hp := (rfl)
theorem e_ixR {d} : ixR (some d) hp = .ok d hp := (rfl)
theorem at0 {α} {a : α} {l} : atI (a :: l) 0 = some a := by
  unfold atI; simp [ixN]
theorem atN {α} {l : List α} {i : Nat} (h : i < l.length) : atI l (i : Int) = l[i]? := by
  unfold atI ixN
  rw [if_pos (by omega), if_pos (by omega)]
  simp
theorem at1 {α} {a b : α} {l} : atI (a :: b :: l) 1 = some b := (atN (i := 1) (by simp)).trans rfl
theorem at2 {α} {a b c : α} {l} : atI (a :: b :: c :: l) 2 = some c := (atN (i := 2) (by simp)).trans rfl
theorem at3 {α} {a b c d : α} {l} : atI (a :: b :: c :: d :: l) 3 = some d := (atN (i := 3) (by simp)).trans rfl
theorem at4 {α} {a b c d e : α} {l} : atI (a :: b :: c :: d :: e :: l) 4 = some e := (atN (i := 4) (by simp)).trans rfl
theorem at5 {α} {a b c d e f : α} {l} : atI (a :: b :: c :: d :: e :: f :: l) 5 = some f := (atN (i := 5) (by simp)).trans rfl
theorem at6 {α} {a b c d e f g : α} {l} : atI (a :: b :: c :: d :: e :: f :: g :: l) 6 = some g := (atN (i := 6) (by simp)).trans rfl
theorem e_int {i : Int} : fInt [.int i] hp = .ok (.int i) hp := (rfl)
theorem e_intT : fInt [.bl true] hp = .ok (.int 1) hp := (rfl)
theorem e_intF : fInt [.bl false] hp = .ok (.int 0) hp := (rfl)
theorem e_abs {i : Int} : fAbs [.int i] hp = .ok (.int (if i < 0 then -i else i)) hp := (rfl)
theorem e_min {i j : Int} : fMin [.int i, .int j] hp = .ok (.int (min i j)) hp := by
  show R.ok (D.int (if j < i then j else i)) hp = _
  congr 2; omega
theorem e_max {i j : Int} : fMax [.int i, .int j] hp = .ok (.int (max i j)) hp := by
  show R.ok (D.int (if j > i then j else i)) hp = _
  congr 2; omega
def lenO (o : Option DO) (hp : DH) : R D := match o with | some (.lst xs) => .ok (.int xs.length) hp | _ => .stuck
theorem e_lent {xs : List D} : fLen [.tup xs] hp = .ok (.int xs.length) hp := (rfl)
theorem e_lens {xs : List D} : fLen [.scr xs] hp = .ok (.int xs.length) hp := (rfl)
theorem e_lenr {n : Nat} : fLen [.ref n] hp = lenO hp[n]? hp := by
  unfold fLen lenO itemsD
  rcases h : hp[n]? with _ | (xs | _ | _) <;> simp [h]
theorem e_leno {xs} : lenO (some (.lst xs)) hp = .ok (.int xs.length) hp := (rfl)
def sumO (o : Option DO) (hp : DH) : R D := match o with | some (.lst xs) => (match intsD xs with | some ns => .ok (.int ns.sum) hp | none => .stuck) | _ => .stuck
theorem e_sumt {ns : List Int} : fSum [.tup (ns.map D.int)] hp = .ok (.int ns.sum) hp := by simp [fSum, itemsD, intsD_map]
theorem e_sumr {n : Nat} : fSum [.ref n] hp = sumO hp[n]? hp := by
  unfold fSum sumO itemsD
  rcases h : hp[n]? with _ | (xs | _ | _) <;> simp [h] <;> rfl
theorem e_sumo {ns : List Int} : sumO (some (.lst (ns.map D.int))) hp = .ok (.int ns.sum) hp := by simp [sumO, intsD_map]
def tupO (o : Option DO) (hp : DH) : R D := match o with | some (.lst xs) => .ok (.tup xs) hp | _ => .stuck
theorem e_ftup {n : Nat} : fTuple [.ref n] hp = tupO hp[n]? hp := by
  unfold fTuple tupO itemsD
  rcases h : hp[n]? with _ | (xs | _ | _) <;> simp [h]
theorem e_tupo {xs} : tupO (some (.lst xs)) hp = .ok (.tup xs) hp := (rfl)
def appO (n : Nat) (d : D) (o : Option DO) (hp : DH) : R D := match o with | some (.lst xs) => if xs.length < sizeLine then .ok .non (hp.set n (.lst (xs ++ [d]))) else .stuck | _ => .stuck
theorem e_apnd {n : Nat} {d : D} : fAppend (.ref n) [d] hp = appO n d hp[n]? hp := (rfl)
theorem e_appo {n : Nat} {d : D} {xs} (h : xs.length < sizeLine) : appO n d (some (.lst xs)) hp = .ok .non (hp.set n (.lst (xs ++ [d]))) := if_pos h
def clrO (n : Nat) (o : Option DO) (hp : DH) : R D := match o with | some (.lst _) => .ok .non (hp.set n (.lst [])) | _ => .stuck
theorem e_clr {n : Nat} : fClear (.ref n) [] hp = clrO n hp[n]? hp := (rfl)
theorem e_clro {n : Nat} {xs} : clrO n (some (.lst xs)) hp = .ok .non (hp.set n (.lst [])) := (rfl)
def kGi2 (d : D) (env : En) (x : D) : D → DH → R En := fun y hp => match x, y with
  | .ref n, .int k => match hp[n]? with
    | some (.lst xs) => match ixN xs.length k with | some j => .ok env (hp.set n (.lst (xs.set j d))) | none => .stuck
    | _ => .stuck
  | _, _ => .stuck
def kGi1 (i : ME) (d : D) (env : En) : D → DH → R En := fun x hp => (i env hp).bind (kGi2 d env x)
theorem e_gix {o i d} : gIx o i d env hp = (o env hp).bind (kGi1 i d env) := (rfl)
theorem e_gi1 {i d x} : kGi1 i d env x hp = (i env hp).bind (kGi2 d env x) := (rfl)
def giO (d : D) (env : En) (n : Nat) (k : Int) (o : Option DO) (hp : DH) : R En := match o with
    | some (.lst xs) => match ixN xs.length k with | some j => .ok env (hp.set n (.lst (xs.set j d))) | none => .stuck
    | _ => .stuck
theorem e_gi2 {d n k} : kGi2 d env (.ref n) (.int k) hp = giO d env n k hp[n]? hp := (rfl)
theorem giO_N {d n} {k : Nat} {xs : List D} (h : k < xs.length) : giO d env n (k : Int) (some (.lst xs)) hp = .ok env (hp.set n (.lst (xs.set k d))) := by
  unfold giO ixN
  simp only
  rw [if_pos (by omega), if_pos (by omega)]
  simp
theorem e_gi0 {d n a l} : giO d env n 0 (some (.lst (a :: l))) hp = .ok env (hp.set n (.lst (d :: l))) := giO_N (k := 0) (by simp)
theorem e_giB {d n a b l} : giO d env n 1 (some (.lst (a :: b :: l))) hp = .ok env (hp.set n (.lst (a :: d :: l))) := giO_N (k := 1) (by simp)
def truO (o : Option Bool) (hp : DH) : R Bool := match o with | some b => .ok b hp | none => .stuck
def kTru : D → DH → R Bool := fun x hp => truO (dTru x hp) hp
theorem e_tru {a} : mTru a env hp = (a env hp).bind kTru := (rfl)
theorem e_trub {b} : kTru (.bl b) hp = .ok b hp := (rfl)
def kIsi (tb : List (String × Bool)) (tc : List (Str × Bool)) : D → DH → R D := fun x hp => match tagD x hp with
  | some (.ty n) => match tb.lookup n with | some b => .ok (.bl b) hp | none => .stuck
  | some (.cl C) => match tc.lookup C with | some b => .ok (.bl b) hp | none => .stuck
  | none => .stuck
theorem e_isi {tb tc o} : mIsi tb tc o env hp = (o env hp).bind (kIsi tb tc) := (rfl)
def isiO (tb : List (String × Bool)) (tc : List (Str × Bool)) (o : Option DO) (hp : DH) : R D := match o with
  | some (.lst _) => (match tb.lookup "list" with | some b => .ok (.bl b) hp | none => .stuck)
  | some (.ins C _) => (match tc.lookup C with | some b => .ok (.bl b) hp | none => .stuck)
  | _ => .stuck
theorem e_isir {tb tc n} : kIsi tb tc (.ref n) hp = isiO tb tc hp[n]? hp := by
  unfold kIsi isiO tagD
  rcases h : hp[n]? with _ | (_ | _ | _) <;> simp [h]
def isB (c : String) (n : String) : List (String × Bool) → Bool := fun tb => (tb.lookup n).getD false
/-! entering -/
def fin (r : RSt) : R D := match r with
    | .nx _ h => .ok .non h
    | .rt d h => .ok d h
    | .exc _ x h => .exc x h
    | _ => .stuck
theorem fin_nx {env h} : fin (.nx env h) = .ok .non h := (rfl)
theorem fin_rt {d h} : fin (.rt d h) = .ok d h := (rfl)
theorem fin_ex {env x h} : fin (.exc env x h) = .exc x h := (rfl)
/-! the heap -/
theorem get_last {o : DO} : (hp ++ [o])[hp.length]? = some o := by simp
theorem set_last {o o' : DO} : (hp ++ [o]).set hp.length o' = hp ++ [o'] := by simp
theorem get_app {n : Nat} {o : DO} {e : DH} (h : hp[n]? = some o) : (hp ++ e)[n]? = some o := by
  rw [List.getElem?_append_left (List.getElem?_eq_some_iff.mp h).1]; exact h
theorem get_lt {n : Nat} {o : DO} (h : hp[n]? = some o) : n < hp.length := (List.getElem?_eq_some_iff.mp h).1
theorem get_set {n : Nat} {o o' : DO} (h : hp[n]? = some o) : (hp.set n o')[n]? = some o' := by
  rw [List.getElem?_set_self (get_lt h)]
end DL
set_option maxHeartbeats 4000000
namespace DL
open PySem PySem.Spec PyProof.Rows L2
def topS (i : Nat) : Stmt := PySem.Challenge.pw_pagestyles_k53_rivers_and_twins.main.body.getD i (.Pass ⟨0, 0, 0, 0⟩)
abbrev s__law_take : Stmt := topS 20
abbrev N__law_take : List Str := ["pool", "many", "got", "one", "two"]
abbrev P__law_take : List Str := ["pool", "many"]
theorem sc__law_take : FnScope N__law_take P__law_take (defScope s__law_take) := ⟨rfl, rfl, rfl, by decide +kernel, rfl, by decide +kernel, by decide +kernel⟩
abbrev s__law_joint : Stmt := topS 22
abbrev N__law_joint : List Str := ["pool", "below", "broad", "more", "wide"]
abbrev P__law_joint : List Str := ["pool", "below", "broad"]
theorem sc__law_joint : FnScope N__law_joint P__law_joint (defScope s__law_joint) := ⟨rfl, rfl, rfl, by decide +kernel, rfl, by decide +kernel, by decide +kernel⟩
abbrev s__law_bare : Stmt := topS 23
abbrev N__law_bare : List Str := ["pool", "least", "often", "many", "broad", "period", "widths", "k", "joints", "below"]
abbrev P__law_bare : List Str := ["pool", "least", "often"]
theorem sc__law_bare : FnScope N__law_bare P__law_bare (defScope s__law_bare) := ⟨rfl, rfl, rfl, by decide +kernel, rfl, by decide +kernel, by decide +kernel⟩
abbrev s__law_glue : Stmt := topS 24
abbrev N__law_glue : List Str := ["row", "start", "end", "wide", "more", "less", "k", "joint"]
abbrev P__law_glue : List Str := ["row", "start", "end"]
theorem sc__law_glue : FnScope N__law_glue P__law_glue (defScope s__law_glue) := ⟨rfl, rfl, rfl, by decide +kernel, rfl, by decide +kernel, by decide +kernel⟩
abbrev s__law_possible : Stmt := topS 26
abbrev N__law_possible : List Str := ["row", "start", "end", "key", "glue", "rest"]
abbrev P__law_possible : List Str := ["row", "start", "end", "key"]
theorem sc__law_possible : FnScope N__law_possible P__law_possible (defScope s__law_possible) := ⟨rfl, rfl, rfl, by decide +kernel, rfl, by decide +kernel, by decide +kernel⟩
abbrev s_Measure_init : Stmt := inClass (topS 17) 0
abbrev N_Measure_init : List Str := ["self", "width", "indent", "align", "hyphen", "twin", "river", "loose"]
abbrev P_Measure_init : List Str := ["self", "width", "indent", "align", "hyphen", "twin", "river", "loose"]
theorem sc_Measure_init : FnScope N_Measure_init P_Measure_init (defScope s_Measure_init) := ⟨rfl, rfl, rfl, by decide +kernel, rfl, by decide +kernel, by decide +kernel⟩
abbrev s_Measure_of : Stmt := inClass (topS 17) 2
abbrev N_Measure_of : List Str := ["key", "width", "indent", "align", "hyphen", "twin", "river", "loose"]
abbrev P_Measure_of : List Str := ["key"]
theorem sc_Measure_of : FnScope N_Measure_of P_Measure_of (defScope s_Measure_of) := ⟨rfl, rfl, rfl, by decide +kernel, rfl, by decide +kernel, by decide +kernel⟩
abbrev s__law_is_integer : Stmt := topS 21
abbrev N__law_is_integer : List Str := ["actual"]
abbrev P__law_is_integer : List Str := ["actual"]
theorem sc__law_is_integer : FnScope N__law_is_integer P__law_is_integer (defScope s__law_is_integer) := ⟨rfl, rfl, rfl, by decide +kernel, rfl, by decide +kernel, by decide +kernel⟩
abbrev s__law_overlap : Stmt := topS 28
abbrev N__law_overlap : List Str := ["one", "two"]
abbrev P__law_overlap : List Str := ["one", "two"]
theorem sc__law_overlap : FnScope N__law_overlap P__law_overlap (defScope s__law_overlap) := ⟨rfl, rfl, rfl, by decide +kernel, rfl, by decide +kernel, by decide +kernel⟩
abbrev s__law_meet : Stmt := topS 29
abbrev N__law_meet : List Str := ["upper", "lower", "count", "low", "over", "up"]
abbrev P__law_meet : List Str := ["upper", "lower"]
theorem sc__law_meet : FnScope N__law_meet P__law_meet (defScope s__law_meet) := ⟨rfl, rfl, rfl, by decide +kernel, rfl, by decide +kernel, by decide +kernel⟩
abbrev s__law_spans : Stmt := topS 27
abbrev N__law_spans : List Str := ["row", "start", "end", "key", "glue", "plain", "rest", "places", "spans", "gone", "extra", "k", "ends"]
abbrev P__law_spans : List Str := ["row", "start", "end", "key"]
theorem sc__law_spans : FnScope N__law_spans P__law_spans (defScope s__law_spans) := ⟨rfl, rfl, rfl, by decide +kernel, rfl, by decide +kernel, by decide +kernel⟩
abbrev s__law_twin : Stmt := topS 32
abbrev N__law_twin : List Str := ["row", "three", "key"]
abbrev P__law_twin : List Str := ["row", "three", "key"]
theorem sc__law_twin : FnScope N__law_twin P__law_twin (defScope s__law_twin) := ⟨rfl, rfl, rfl, by decide +kernel, rfl, by decide +kernel, by decide +kernel⟩
abbrev s_count_overlapping : Stmt := topS 13
abbrev N_count_overlapping : List Str := ["upper", "lower", "count", "at", "first", "end"]
abbrev P_count_overlapping : List Str := ["upper", "lower"]
theorem sc_count_overlapping : FnScope N_count_overlapping P_count_overlapping (defScope s_count_overlapping) := ⟨rfl, rfl, rfl, by decide +kernel, rfl, by decide +kernel, by decide +kernel⟩
abbrev s_Glue_init : Stmt := inClass (topS 2) 0
abbrev N_Glue_init : List Str := ["self", "width", "stretch", "shrink"]
abbrev P_Glue_init : List Str := ["self", "width", "stretch", "shrink"]
theorem sc_Glue_init : FnScope N_Glue_init P_Glue_init (defScope s_Glue_init) := ⟨rfl, rfl, rfl, by decide +kernel, rfl, by decide +kernel, by decide +kernel⟩
abbrev s_Glue_add : Stmt := inClass (topS 2) 2
abbrev N_Glue_add : List Str := ["self", "other"]
abbrev P_Glue_add : List Str := ["self", "other"]
theorem sc_Glue_add : FnScope N_Glue_add P_Glue_add (defScope s_Glue_add) := ⟨rfl, rfl, rfl, by decide +kernel, rfl, by decide +kernel, by decide +kernel⟩
abbrev s_Glue_sub : Stmt := inClass (topS 2) 3
abbrev N_Glue_sub : List Str := ["self", "other"]
abbrev P_Glue_sub : List Str := ["self", "other"]
theorem sc_Glue_sub : FnScope N_Glue_sub P_Glue_sub (defScope s_Glue_sub) := ⟨rfl, rfl, rfl, by decide +kernel, rfl, by decide +kernel, by decide +kernel⟩
abbrev s_extra_of : Stmt := topS 10
abbrev N_extra_of : List Str := ["rest", "glue", "before", "last", "measure"]
abbrev P_extra_of : List Str := ["rest", "glue", "before", "last", "measure"]
theorem sc_extra_of : FnScope N_extra_of P_extra_of (defScope s_extra_of) := ⟨rfl, rfl, rfl, by decide +kernel, rfl, by decide +kernel, by decide +kernel⟩
abbrev s_joint_glue : Stmt := topS 5
abbrev N_joint_glue : List Str := ["joint"]
abbrev P_joint_glue : List Str := ["joint"]
theorem sc_joint_glue : FnScope N_joint_glue P_joint_glue (defScope s_joint_glue) := ⟨rfl, rfl, rfl, by decide +kernel, rfl, by decide +kernel, by decide +kernel⟩
abbrev s_extended_glue : Stmt := topS 6
abbrev N_extended_glue : List Str := ["row", "inner", "box", "widths", "joints"]
abbrev P_extended_glue : List Str := ["row", "inner", "box"]
theorem sc_extended_glue : FnScope N_extended_glue P_extended_glue (defScope s_extended_glue) := ⟨rfl, rfl, rfl, by decide +kernel, rfl, by decide +kernel, by decide +kernel⟩
abbrev s_ends_at_hyphen : Stmt := topS 4
abbrev N_ends_at_hyphen : List Str := ["row", "end", "widths", "joints"]
abbrev P_ends_at_hyphen : List Str := ["row", "end"]
theorem sc_ends_at_hyphen : FnScope N_ends_at_hyphen P_ends_at_hyphen (defScope s_ends_at_hyphen) := ⟨rfl, rfl, rfl, by decide +kernel, rfl, by decide +kernel, by decide +kernel⟩
abbrev s_finished_glue : Stmt := topS 7
abbrev N_finished_glue : List Str := ["row", "inner", "end"]
abbrev P_finished_glue : List Str := ["row", "inner", "end"]
theorem sc_finished_glue : FnScope N_finished_glue P_finished_glue (defScope s_finished_glue) := ⟨rfl, rfl, rfl, by decide +kernel, rfl, by decide +kernel, by decide +kernel⟩
abbrev s_line_glue : Stmt := topS 8
abbrev N_line_glue : List Str := ["row", "start", "end", "inner", "box"]
abbrev P_line_glue : List Str := ["row", "start", "end"]
theorem sc_line_glue : FnScope N_line_glue P_line_glue (defScope s_line_glue) := ⟨rfl, rfl, rfl, by decide +kernel, rfl, by decide +kernel, by decide +kernel⟩
abbrev s_room_of : Stmt := topS 9
abbrev N_room_of : List Str := ["start", "measure"]
abbrev P_room_of : List Str := ["start", "measure"]
theorem sc_room_of : FnScope N_room_of P_room_of (defScope s_room_of) := ⟨rfl, rfl, rfl, by decide +kernel, rfl, by decide +kernel, by decide +kernel⟩
abbrev s_box_places : Stmt := topS 11
abbrev N_box_places : List Str := ["row", "start", "end", "measure", "widths", "joints", "glue", "rest", "last", "plain", "before", "places", "box", "joint"]
abbrev P_box_places : List Str := ["row", "start", "end", "measure"]
theorem sc_box_places : FnScope N_box_places P_box_places (defScope s_box_places) := ⟨rfl, rfl, rfl, by decide +kernel, rfl, by decide +kernel, by decide +kernel⟩
abbrev s_gap_spans : Stmt := topS 12
abbrev N_gap_spans : List Str := ["row", "start", "end", "measure", "widths", "joints", "places", "spans", "box", "right_end"]
abbrev P_gap_spans : List Str := ["row", "start", "end", "measure"]
theorem sc_gap_spans : FnScope N_gap_spans P_gap_spans (defScope s_gap_spans) := ⟨rfl, rfl, rfl, by decide +kernel, rfl, by decide +kernel, by decide +kernel⟩
abbrev s_price_with_count : Stmt := topS 14
abbrev N_price_with_count : List Str := ["row", "middle", "end", "measure", "count"]
abbrev P_price_with_count : List Str := ["row", "middle", "end", "measure", "count"]
theorem sc_price_with_count : FnScope N_price_with_count P_price_with_count (defScope s_price_with_count) := ⟨rfl, rfl, rfl, by decide +kernel, rfl, by decide +kernel, by decide +kernel⟩
abbrev s_pair_price : Stmt := topS 15
abbrev N_pair_price : List Str := ["row", "start", "middle", "end", "measure", "count", "upper", "lower"]
abbrev P_pair_price : List Str := ["row", "start", "middle", "end", "measure"]
theorem sc_pair_price : FnScope N_pair_price P_pair_price (defScope s_pair_price) := ⟨rfl, rfl, rfl, by decide +kernel, rfl, by decide +kernel, by decide +kernel⟩
abbrev s__law_priced : Stmt := topS 35
abbrev N__law_priced : List Str := ["row", "three", "key", "upper", "lower", "count", "stream", "measure", "price"]
abbrev P__law_priced : List Str := ["row", "three", "key"]
theorem sc__law_priced : FnScope N__law_priced P__law_priced (defScope s__law_priced) := ⟨rfl, rfl, rfl, by decide +kernel, rfl, by decide +kernel, by decide +kernel⟩
abbrev s__law_both : Stmt := topS 36
abbrev N__law_both : List Str := ["row", "three", "key"]
abbrev P__law_both : List Str := ["row", "three", "key"]
theorem sc__law_both : FnScope N__law_both P__law_both (defScope s__law_both) := ⟨rfl, rfl, rfl, by decide +kernel, rfl, by decide +kernel, by decide +kernel⟩
abbrev s__law_hyphen : Stmt := topS 33
abbrev N__law_hyphen : List Str := ["pool", "below", "broad", "more"]
abbrev P__law_hyphen : List Str := ["pool", "below", "broad"]
theorem sc__law_hyphen : FnScope N__law_hyphen P__law_hyphen (defScope s__law_hyphen) := ⟨rfl, rfl, rfl, by decide +kernel, rfl, by decide +kernel, by decide +kernel⟩
abbrev s__law_echo : Stmt := topS 34
abbrev N__law_echo : List Str := ["pool", "many", "broad", "gaps", "top", "widths", "joints", "k", "wide", "more", "below", "tail", "middle", "behind"]
abbrev P__law_echo : List Str := ["pool"]
theorem sc__law_echo : FnScope N__law_echo P__law_echo (defScope s__law_echo) := ⟨rfl, rfl, rfl, by decide +kernel, rfl, by decide +kernel, by decide +kernel⟩
abbrev s__law_line_key : Stmt := topS 25
abbrev N__law_line_key : List Str := ["pool", "row", "gaps", "whole", "sort", "wide", "start", "end", "reach", "begin", "side", "one", "two", "stream", "slack", "joint"]
abbrev P__law_line_key : List Str := ["pool", "row"]
theorem sc__law_line_key : FnScope N__law_line_key P__law_line_key (defScope s__law_line_key) := ⟨rfl, rfl, rfl, by decide +kernel, rfl, by decide +kernel, by decide +kernel⟩
abbrev s__law_shared : Stmt := topS 31
abbrev N__law_shared : List Str := ["pool", "row", "three", "key", "upper", "lower", "begin", "least", "reach", "wide", "more"]
abbrev P__law_shared : List Str := ["pool", "row", "three", "key"]
theorem sc__law_shared : FnScope N__law_shared P__law_shared (defScope s__law_shared) := ⟨rfl, rfl, rfl, by decide +kernel, rfl, by decide +kernel, by decide +kernel⟩
abbrev s__law_echoed : Stmt := topS 37
abbrev N__law_echoed : List Str := ["pool", "row", "many", "key", "wide", "line", "plain", "end", "three"]
abbrev P__law_echoed : List Str := ["pool"]
theorem sc__law_echoed : FnScope N__law_echoed P__law_echoed (defScope s__law_echoed) := ⟨rfl, rfl, rfl, by decide +kernel, rfl, by decide +kernel, by decide +kernel⟩
abbrev s__law_pool : Stmt := topS 19
abbrev N__law_pool : List Str := ["script", "at", "cell"]
abbrev P__law_pool : List Str := ["script", "at"]
theorem sc__law_pool : FnScope N__law_pool P__law_pool (defScope s__law_pool) := ⟨rfl, rfl, rfl, by decide +kernel, rfl, by decide +kernel, by decide +kernel⟩
abbrev s__law_three : Stmt := topS 30
abbrev N__law_three : List Str := ["pool", "row", "many", "hyphens", "at", "after", "start", "middle", "k"]
abbrev P__law_three : List Str := ["pool", "row"]
theorem sc__law_three : FnScope N__law_three P__law_three (defScope s__law_three) := ⟨rfl, rfl, rfl, by decide +kernel, rfl, by decide +kernel, by decide +kernel⟩
abbrev s_law : Stmt := topS 38
abbrev N_law : List Str := ["script", "row", "key", "pool", "three"]
abbrev P_law : List Str := ["script"]
theorem sc_law : FnScope N_law P_law (defScope s_law) := ⟨rfl, rfl, rfl, by decide +kernel, rfl, by decide +kernel, by decide +kernel⟩
abbrev kw_Measure : List (Str × V) := [("indent", (.int 0)), ("align", (.str "both")), ("hyphen", (.int 50)), ("twin", (.int 100)), ("river", (.int 0)), ("loose", (.int 2))]
abbrev kd_Measure : List D := [.int 0, .str "both", .int 50, .int 100, .int 0, .int 2]
structure Txt (K : PySem.W.Frag) (mg : Str → Option Value) where
  a__law_take : Addr
  fd__law_take : FuncData
  F__law_take : FunD K "_law_take" "_law_take" (defArgs s__law_take) (defBody s__law_take) (defScope s__law_take) [] [] a__law_take fd__law_take
  b__law_take : Binds K fd__law_take P__law_take []
  g__law_take : mg "_law_take" = some (.ref a__law_take)
  a__law_joint : Addr
  fd__law_joint : FuncData
  F__law_joint : FunD K "_law_joint" "_law_joint" (defArgs s__law_joint) (defBody s__law_joint) (defScope s__law_joint) [] [] a__law_joint fd__law_joint
  b__law_joint : Binds K fd__law_joint P__law_joint []
  g__law_joint : mg "_law_joint" = some (.ref a__law_joint)
  a__law_bare : Addr
  fd__law_bare : FuncData
  F__law_bare : FunD K "_law_bare" "_law_bare" (defArgs s__law_bare) (defBody s__law_bare) (defScope s__law_bare) [] [] a__law_bare fd__law_bare
  b__law_bare : Binds K fd__law_bare P__law_bare []
  g__law_bare : mg "_law_bare" = some (.ref a__law_bare)
  a__law_glue : Addr
  fd__law_glue : FuncData
  F__law_glue : FunD K "_law_glue" "_law_glue" (defArgs s__law_glue) (defBody s__law_glue) (defScope s__law_glue) [] [] a__law_glue fd__law_glue
  b__law_glue : Binds K fd__law_glue P__law_glue []
  g__law_glue : mg "_law_glue" = some (.ref a__law_glue)
  a__law_possible : Addr
  fd__law_possible : FuncData
  F__law_possible : FunD K "_law_possible" "_law_possible" (defArgs s__law_possible) (defBody s__law_possible) (defScope s__law_possible) [] [] a__law_possible fd__law_possible
  b__law_possible : Binds K fd__law_possible P__law_possible []
  g__law_possible : mg "_law_possible" = some (.ref a__law_possible)
  a_Measure_init : Addr
  fd_Measure_init : FuncData
  F_Measure_init : FunD K "__init__" "Measure.__init__" (defArgs s_Measure_init) (defBody s_Measure_init) (defScope s_Measure_init) [] kw_Measure a_Measure_init fd_Measure_init
  a_Measure_of : Addr
  fd_Measure_of : FuncData
  F_Measure_of : FunD K "of" "Measure.of" (defArgs s_Measure_of) (defBody s_Measure_of) (defScope s_Measure_of) [] [] a_Measure_of fd_Measure_of
  b_Measure_of : Binds K fd_Measure_of P_Measure_of []
  a__law_is_integer : Addr
  fd__law_is_integer : FuncData
  F__law_is_integer : FunD K "_law_is_integer" "_law_is_integer" (defArgs s__law_is_integer) (defBody s__law_is_integer) (defScope s__law_is_integer) [] [] a__law_is_integer fd__law_is_integer
  b__law_is_integer : Binds K fd__law_is_integer P__law_is_integer []
  g__law_is_integer : mg "_law_is_integer" = some (.ref a__law_is_integer)
  a__law_overlap : Addr
  fd__law_overlap : FuncData
  F__law_overlap : FunD K "_law_overlap" "_law_overlap" (defArgs s__law_overlap) (defBody s__law_overlap) (defScope s__law_overlap) [] [] a__law_overlap fd__law_overlap
  b__law_overlap : Binds K fd__law_overlap P__law_overlap []
  g__law_overlap : mg "_law_overlap" = some (.ref a__law_overlap)
  a__law_meet : Addr
  fd__law_meet : FuncData
  F__law_meet : FunD K "_law_meet" "_law_meet" (defArgs s__law_meet) (defBody s__law_meet) (defScope s__law_meet) [] [] a__law_meet fd__law_meet
  b__law_meet : Binds K fd__law_meet P__law_meet []
  g__law_meet : mg "_law_meet" = some (.ref a__law_meet)
  a__law_spans : Addr
  fd__law_spans : FuncData
  F__law_spans : FunD K "_law_spans" "_law_spans" (defArgs s__law_spans) (defBody s__law_spans) (defScope s__law_spans) [] [] a__law_spans fd__law_spans
  b__law_spans : Binds K fd__law_spans P__law_spans []
  g__law_spans : mg "_law_spans" = some (.ref a__law_spans)
  a__law_twin : Addr
  fd__law_twin : FuncData
  F__law_twin : FunD K "_law_twin" "_law_twin" (defArgs s__law_twin) (defBody s__law_twin) (defScope s__law_twin) [] [] a__law_twin fd__law_twin
  b__law_twin : Binds K fd__law_twin P__law_twin []
  g__law_twin : mg "_law_twin" = some (.ref a__law_twin)
  a_count_overlapping : Addr
  fd_count_overlapping : FuncData
  F_count_overlapping : FunD K "count_overlapping" "count_overlapping" (defArgs s_count_overlapping) (defBody s_count_overlapping) (defScope s_count_overlapping) [] [] a_count_overlapping fd_count_overlapping
  b_count_overlapping : Binds K fd_count_overlapping P_count_overlapping []
  g_count_overlapping : mg "count_overlapping" = some (.ref a_count_overlapping)
  a_Glue_init : Addr
  fd_Glue_init : FuncData
  F_Glue_init : FunD K "__init__" "Glue.__init__" (defArgs s_Glue_init) (defBody s_Glue_init) (defScope s_Glue_init) [] [] a_Glue_init fd_Glue_init
  b_Glue_init : Binds K fd_Glue_init P_Glue_init []
  a_Glue_add : Addr
  fd_Glue_add : FuncData
  F_Glue_add : FunD K "__add__" "Glue.__add__" (defArgs s_Glue_add) (defBody s_Glue_add) (defScope s_Glue_add) [] [] a_Glue_add fd_Glue_add
  b_Glue_add : Binds K fd_Glue_add P_Glue_add []
  a_Glue_sub : Addr
  fd_Glue_sub : FuncData
  F_Glue_sub : FunD K "__sub__" "Glue.__sub__" (defArgs s_Glue_sub) (defBody s_Glue_sub) (defScope s_Glue_sub) [] [] a_Glue_sub fd_Glue_sub
  b_Glue_sub : Binds K fd_Glue_sub P_Glue_sub []
  a_extra_of : Addr
  fd_extra_of : FuncData
  F_extra_of : FunD K "extra_of" "extra_of" (defArgs s_extra_of) (defBody s_extra_of) (defScope s_extra_of) [] [] a_extra_of fd_extra_of
  b_extra_of : Binds K fd_extra_of P_extra_of []
  g_extra_of : mg "extra_of" = some (.ref a_extra_of)
  a_joint_glue : Addr
  fd_joint_glue : FuncData
  F_joint_glue : FunD K "joint_glue" "joint_glue" (defArgs s_joint_glue) (defBody s_joint_glue) (defScope s_joint_glue) [] [] a_joint_glue fd_joint_glue
  b_joint_glue : Binds K fd_joint_glue P_joint_glue []
  g_joint_glue : mg "joint_glue" = some (.ref a_joint_glue)
  a_extended_glue : Addr
  fd_extended_glue : FuncData
  F_extended_glue : FunD K "extended_glue" "extended_glue" (defArgs s_extended_glue) (defBody s_extended_glue) (defScope s_extended_glue) [] [] a_extended_glue fd_extended_glue
  b_extended_glue : Binds K fd_extended_glue P_extended_glue []
  g_extended_glue : mg "extended_glue" = some (.ref a_extended_glue)
  a_ends_at_hyphen : Addr
  fd_ends_at_hyphen : FuncData
  F_ends_at_hyphen : FunD K "ends_at_hyphen" "ends_at_hyphen" (defArgs s_ends_at_hyphen) (defBody s_ends_at_hyphen) (defScope s_ends_at_hyphen) [] [] a_ends_at_hyphen fd_ends_at_hyphen
  b_ends_at_hyphen : Binds K fd_ends_at_hyphen P_ends_at_hyphen []
  g_ends_at_hyphen : mg "ends_at_hyphen" = some (.ref a_ends_at_hyphen)
  a_finished_glue : Addr
  fd_finished_glue : FuncData
  F_finished_glue : FunD K "finished_glue" "finished_glue" (defArgs s_finished_glue) (defBody s_finished_glue) (defScope s_finished_glue) [] [] a_finished_glue fd_finished_glue
  b_finished_glue : Binds K fd_finished_glue P_finished_glue []
  g_finished_glue : mg "finished_glue" = some (.ref a_finished_glue)
  a_line_glue : Addr
  fd_line_glue : FuncData
  F_line_glue : FunD K "line_glue" "line_glue" (defArgs s_line_glue) (defBody s_line_glue) (defScope s_line_glue) [] [] a_line_glue fd_line_glue
  b_line_glue : Binds K fd_line_glue P_line_glue []
  g_line_glue : mg "line_glue" = some (.ref a_line_glue)
  a_room_of : Addr
  fd_room_of : FuncData
  F_room_of : FunD K "room_of" "room_of" (defArgs s_room_of) (defBody s_room_of) (defScope s_room_of) [] [] a_room_of fd_room_of
  b_room_of : Binds K fd_room_of P_room_of []
  g_room_of : mg "room_of" = some (.ref a_room_of)
  a_box_places : Addr
  fd_box_places : FuncData
  F_box_places : FunD K "box_places" "box_places" (defArgs s_box_places) (defBody s_box_places) (defScope s_box_places) [] [] a_box_places fd_box_places
  b_box_places : Binds K fd_box_places P_box_places []
  g_box_places : mg "box_places" = some (.ref a_box_places)
  a_gap_spans : Addr
  fd_gap_spans : FuncData
  F_gap_spans : FunD K "gap_spans" "gap_spans" (defArgs s_gap_spans) (defBody s_gap_spans) (defScope s_gap_spans) [] [] a_gap_spans fd_gap_spans
  b_gap_spans : Binds K fd_gap_spans P_gap_spans []
  g_gap_spans : mg "gap_spans" = some (.ref a_gap_spans)
  a_price_with_count : Addr
  fd_price_with_count : FuncData
  F_price_with_count : FunD K "price_with_count" "price_with_count" (defArgs s_price_with_count) (defBody s_price_with_count) (defScope s_price_with_count) [] [] a_price_with_count fd_price_with_count
  b_price_with_count : Binds K fd_price_with_count P_price_with_count []
  g_price_with_count : mg "price_with_count" = some (.ref a_price_with_count)
  a_pair_price : Addr
  fd_pair_price : FuncData
  F_pair_price : FunD K "pair_price" "pair_price" (defArgs s_pair_price) (defBody s_pair_price) (defScope s_pair_price) [] [] a_pair_price fd_pair_price
  b_pair_price : Binds K fd_pair_price P_pair_price []
  g_pair_price : mg "pair_price" = some (.ref a_pair_price)
  a__law_priced : Addr
  fd__law_priced : FuncData
  F__law_priced : FunD K "_law_priced" "_law_priced" (defArgs s__law_priced) (defBody s__law_priced) (defScope s__law_priced) [] [] a__law_priced fd__law_priced
  b__law_priced : Binds K fd__law_priced P__law_priced []
  g__law_priced : mg "_law_priced" = some (.ref a__law_priced)
  a__law_both : Addr
  fd__law_both : FuncData
  F__law_both : FunD K "_law_both" "_law_both" (defArgs s__law_both) (defBody s__law_both) (defScope s__law_both) [] [] a__law_both fd__law_both
  b__law_both : Binds K fd__law_both P__law_both []
  g__law_both : mg "_law_both" = some (.ref a__law_both)
  a__law_hyphen : Addr
  fd__law_hyphen : FuncData
  F__law_hyphen : FunD K "_law_hyphen" "_law_hyphen" (defArgs s__law_hyphen) (defBody s__law_hyphen) (defScope s__law_hyphen) [] [] a__law_hyphen fd__law_hyphen
  b__law_hyphen : Binds K fd__law_hyphen P__law_hyphen []
  g__law_hyphen : mg "_law_hyphen" = some (.ref a__law_hyphen)
  a__law_echo : Addr
  fd__law_echo : FuncData
  F__law_echo : FunD K "_law_echo" "_law_echo" (defArgs s__law_echo) (defBody s__law_echo) (defScope s__law_echo) [] [] a__law_echo fd__law_echo
  b__law_echo : Binds K fd__law_echo P__law_echo []
  g__law_echo : mg "_law_echo" = some (.ref a__law_echo)
  a__law_line_key : Addr
  fd__law_line_key : FuncData
  F__law_line_key : FunD K "_law_line_key" "_law_line_key" (defArgs s__law_line_key) (defBody s__law_line_key) (defScope s__law_line_key) [] [] a__law_line_key fd__law_line_key
  b__law_line_key : Binds K fd__law_line_key P__law_line_key []
  g__law_line_key : mg "_law_line_key" = some (.ref a__law_line_key)
  a__law_shared : Addr
  fd__law_shared : FuncData
  F__law_shared : FunD K "_law_shared" "_law_shared" (defArgs s__law_shared) (defBody s__law_shared) (defScope s__law_shared) [] [] a__law_shared fd__law_shared
  b__law_shared : Binds K fd__law_shared P__law_shared []
  g__law_shared : mg "_law_shared" = some (.ref a__law_shared)
  a__law_echoed : Addr
  fd__law_echoed : FuncData
  F__law_echoed : FunD K "_law_echoed" "_law_echoed" (defArgs s__law_echoed) (defBody s__law_echoed) (defScope s__law_echoed) [] [] a__law_echoed fd__law_echoed
  b__law_echoed : Binds K fd__law_echoed P__law_echoed []
  g__law_echoed : mg "_law_echoed" = some (.ref a__law_echoed)
  a__law_pool : Addr
  fd__law_pool : FuncData
  F__law_pool : FunD K "_law_pool" "_law_pool" (defArgs s__law_pool) (defBody s__law_pool) (defScope s__law_pool) [] [] a__law_pool fd__law_pool
  b__law_pool : Binds K fd__law_pool P__law_pool []
  g__law_pool : mg "_law_pool" = some (.ref a__law_pool)
  a__law_three : Addr
  fd__law_three : FuncData
  F__law_three : FunD K "_law_three" "_law_three" (defArgs s__law_three) (defBody s__law_three) (defScope s__law_three) [] [] a__law_three fd__law_three
  b__law_three : Binds K fd__law_three P__law_three []
  g__law_three : mg "_law_three" = some (.ref a__law_three)
  a_law : Addr
  fd_law : FuncData
  F_law : FunD K "law" "law" (defArgs s_law) (defBody s_law) (defScope s_law) [] [] a_law fd_law
  b_law : Binds K fd_law P_law []
  g_law : mg "law" = some (.ref a_law)
  A_Glue : Addr
  g_Glue : mg "Glue" = some (.ref A_Glue)
  c_Glue : A_Glue = (⟨K, mg⟩ : Sg).cl "Glue"
  cl_Glue : Cls K A_Glue
  mk_Glue : Mk K A_Glue a_Glue_init
  A_Measure : Addr
  g_Measure : mg "Measure" = some (.ref A_Measure)
  c_Measure : A_Measure = (⟨K, mg⟩ : Sg).cl "Measure"
  cl_Measure : Cls K A_Measure
  mk_Measure : Mk K A_Measure a_Measure_init
  bk_Measure : KBn K fd_Measure_init P_Measure_init 2 ["indent", "align", "hyphen", "twin", "river", "loose"] (fun us ws => us ++ ws) (fun vs zs => vs ++ zs)
  sm_Measure_of : SMet K A_Measure "of" a_Measure_of
  oc_Glue_add : OpC K A_Glue "__add__" a_Glue_add
  oc_Glue_sub : OpC K A_Glue "__sub__" a_Glue_sub
  f_align : ∀ C ∈ [("Measure" : Str)], Cls K ((⟨K, mg⟩ : Sg).cl C) ∧ NoAttr K ((⟨K, mg⟩ : Sg).cl C) "align"
  f_hyphen : ∀ C ∈ [("Measure" : Str)], Cls K ((⟨K, mg⟩ : Sg).cl C) ∧ NoAttr K ((⟨K, mg⟩ : Sg).cl C) "hyphen"
  f_indent : ∀ C ∈ [("Measure" : Str)], Cls K ((⟨K, mg⟩ : Sg).cl C) ∧ NoAttr K ((⟨K, mg⟩ : Sg).cl C) "indent"
  f_loose : ∀ C ∈ [("Measure" : Str)], Cls K ((⟨K, mg⟩ : Sg).cl C) ∧ NoAttr K ((⟨K, mg⟩ : Sg).cl C) "loose"
  f_river : ∀ C ∈ [("Measure" : Str)], Cls K ((⟨K, mg⟩ : Sg).cl C) ∧ NoAttr K ((⟨K, mg⟩ : Sg).cl C) "river"
  f_shrink : ∀ C ∈ [("Glue" : Str)], Cls K ((⟨K, mg⟩ : Sg).cl C) ∧ NoAttr K ((⟨K, mg⟩ : Sg).cl C) "shrink"
  f_stretch : ∀ C ∈ [("Glue" : Str)], Cls K ((⟨K, mg⟩ : Sg).cl C) ∧ NoAttr K ((⟨K, mg⟩ : Sg).cl C) "stretch"
  f_twin : ∀ C ∈ [("Measure" : Str)], Cls K ((⟨K, mg⟩ : Sg).cl C) ∧ NoAttr K ((⟨K, mg⟩ : Sg).cl C) "twin"
  f_width : ∀ C ∈ [("Glue" : Str), ("Measure" : Str)], Cls K ((⟨K, mg⟩ : Sg).cl C) ∧ NoAttr K ((⟨K, mg⟩ : Sg).cl C) "width"
  it_Glue : ∀ q ∈ [("int", false), ("bool", false)], PySem.W.kitOne K (.type q.1) (.ref A_Glue) = some q.2
  io_Glue : ∀ q ∈ [(("Glue" : Str), true)], IsC K ((⟨K, mg⟩ : Sg).cl q.1) ∧ PySem.W.kitOne K (.ref ((⟨K, mg⟩ : Sg).cl q.1)) (.ref A_Glue) = some q.2
  z_abs : mg "abs" = none
  z_bool : mg "bool" = none
  z_int : mg "int" = none
  z_isinstance : mg "isinstance" = none
  z_len : mg "len" = none
  z_max : mg "max" = none
  z_min : mg "min" = none
  z_range : mg "range" = none
  z_sum : mg "sum" = none
  z_tuple : mg "tuple" = none
section
variable {P : Program} {w : World} {K : PySem.W.Frag} {mg : Str → Option Value} {base : Heap}
def lp__law_take_0 : MS := mSeq (mSet 3 (mOp dMod (mCB fInt (mCons (mOp dAdd (mOp dAdd (mOp dMul (mOp dIx (mVar 0) (mC (.int 3))) (mC (.int 48271))) (mOp dMul (mOp dIx (mVar 0) (mC (.int 1))) (mC (.int 69621)))) (mC (.int 11))) (mNil))) (mC (.int 2147483647)))) (
    mSeq (mSet 4 (mOp dMod (mCB fInt (mCons (mOp dAdd (mOp dAdd (mOp dMul (mVar 3) (mC (.int 16807))) (mOp dDiv (mVar 3) (mC (.int 65536)))) (mOp dMul (mOp dMul (mOp dIx (mVar 0) (mC (.int 1))) (mOp dIx (mVar 0) (mC (.int 1)))) (mC (.int 40692)))) (mNil))) (mC (.int 2147483399)))) (
    mRet (mOp dMod (mCB fInt (mCons (mOp dDiv (mVar 4) (mOp dAdd (mOp dIx (mVar 0) (mC (.int 1))) (mC (.int 6)))) (mNil))) (mVar 1))))
def m__law_take : MS := mSeq (mAsg (mOp dAdd (mOp dIx (mVar 0) (mC (.int 1))) (mC (.int 1))) (gIx (mVar 0) (mC (.int 1)))) (
    mSeq (mIfS (mTest (mOp (dEq) (mOp dIx (mVar 0) (mC (.int 2))) (mC (.int 1)))) (mSeq (mSet 2 (mOp dMod (mCB fInt (mCons (mOp dIx (mVar 0) (mC (.int 0))) (mNil))) (mVar 1))) (
    mSeq (mAsg (mOp dDiv (mOp dIx (mVar 0) (mC (.int 0))) (mVar 1)) (gIx (mVar 0) (mC (.int 0)))) (
    mRet (mVar 2)))) (mNext)) (
    (lp__law_take_0)))
def run__law_take : Rn := run 2 5 m__law_take
theorem ent__law_take {x0 x1 : D} {hp : DH} : run__law_take [x0, x1] hp = fin (m__law_take [some x0, some x1, none, none, none] hp) := (rfl)
theorem cn__law_take : Cn 2 run__law_take := cn_run
theorem ok__law_take (T : Txt K mg) : FnOk P w K mg base (L2.CX P w) 1 T.a__law_take T.fd__law_take P__law_take (spF ⟨P, w⟩ ⟨K, mg⟩ 2 run__law_take) :=
  dfn_ok T.F__law_take sc__law_take rfl rfl fun cdv A outer s H E hr tk => ds_cons (ds_asg (d_op o_add od_add (d_ix (d_v 0) (d_int) (fun _ _ => rfl)) (d_int)) (dg_ix (d_v 0) (d_int) (pg_sub (d_v 0) (d_int) set_list))) (
    ds_cons (ds_if (d_cmpT (o_eq hr.units) od_eq (d_ix (d_v 0) (d_int) (fun _ _ => rfl)) (d_int) (nomark _)) (ds_cons (ds_set (i := 2) sc__law_take.nd rfl (Or.inl rfl) (d_op op_mod od_mod (d_cty call_int1 cd_int rfl T.z_int (by decide +kernel) (da_cons (d_ix (d_v 0) (d_int) (fun _ _ => rfl)) (da_nil))) (d_v 1))) (
    ds_cons (ds_asg (d_op op_fdivW od_div (d_ix (d_v 0) (d_int) (fun _ _ => rfl)) (d_v 1)) (dg_ix (d_v 0) (d_int) (pg_sub (d_v 0) (d_int) set_list))) (
    ds_last (ds_ret (d_v 2))))) (ds_nil)) (
    ds_cons (ds_set (i := 3) sc__law_take.nd rfl (Or.inl rfl) (d_op op_mod od_mod (d_cty call_int1 cd_int rfl T.z_int (by decide +kernel) (da_cons (d_op o_add od_add (d_op o_add od_add (d_op o_mulI od_mul (d_ix (d_v 0) (d_int) (fun _ _ => rfl)) (d_int)) (d_op o_mulI od_mul (d_ix (d_v 0) (d_int) (fun _ _ => rfl)) (d_int))) (d_int)) (da_nil))) (d_int))) (
    ds_cons (ds_set (i := 4) sc__law_take.nd rfl (Or.inl rfl) (d_op op_mod od_mod (d_cty call_int1 cd_int rfl T.z_int (by decide +kernel) (da_cons (d_op o_add od_add (d_op o_add od_add (d_op o_mulI od_mul (d_v 3) (d_int)) (d_op op_fdivW od_div (d_v 3) (d_int))) (d_op o_mulI od_mul (d_op o_mulI od_mul (d_ix (d_v 0) (d_int) (fun _ _ => rfl)) (d_ix (d_v 0) (d_int) (fun _ _ => rfl))) (d_int))) (da_nil))) (d_int))) (
    ds_last (ds_ret (d_op op_mod od_mod (d_cty call_int1 cd_int rfl T.z_int (by decide +kernel) (da_cons (d_op op_fdivW od_div (d_v 4) (d_op o_add od_add (d_ix (d_v 0) (d_int) (fun _ _ => rfl)) (d_int))) (da_nil))) (d_v 1)))))))
def lp__law_joint_0 : MS := mSeq (mSet 4 (mOp dAdd (mC (.int 1)) (mCall run__law_take (mCons (mVar 0) (mCons (mOp dIx (mLst (mCons (mC (.int 12)) (mCons (mC (.int 500)) (mNil)))) (mVar 2)) (mNil)))))) (
    mSeq (mSet 3 (mCall run__law_take (mCons (mVar 0) (mCons (mOp dIx (mLst (mCons (mC (.int 12)) (mCons (mC (.int 501)) (mNil)))) (mVar 2)) (mNil))))) (
    mRet (mTup (mCons (mC (.str "gap")) (mCons (mVar 4) (mCons (mVar 3) (mCons (mCall run__law_take (mCons (mVar 0) (mCons (mVar 4) (mNil)))) (mNil))))))))
def m__law_joint : MS := mSeq (mIfS (mTest (mOp (dEq) (mCall run__law_take (mCons (mVar 0) (mCons (mC (.int 3)) (mNil)))) (mC (.int 0)))) (mSeq (mSet 3 (mOp dAdd (mC (.int 1)) (mCall run__law_take (mCons (mVar 0) (mCons (mOp dIx (mLst (mCons (mC (.int 9)) (mCons (mC (.int 500)) (mNil)))) (mVar 2)) (mNil)))))) (
    mRet (mTup (mCons (mC (.str "hyphen")) (mCons (mVar 3) (mCons (mCall run__law_take (mCons (mVar 0) (mCons (mVar 1) (mNil)))) (mNil))))))) (mNext)) (
    (lp__law_joint_0))
def run__law_joint : Rn := run 3 5 m__law_joint
theorem ent__law_joint {x0 x1 x2 : D} {hp : DH} : run__law_joint [x0, x1, x2] hp = fin (m__law_joint [some x0, some x1, some x2, none, none] hp) := (rfl)
theorem cn__law_joint : Cn 3 run__law_joint := cn_run
theorem ok__law_joint (T : Txt K mg) : FnOk P w K mg base (L2.CX P w) 2 T.a__law_joint T.fd__law_joint P__law_joint (spF ⟨P, w⟩ ⟨K, mg⟩ 3 run__law_joint) :=
  dfn_ok T.F__law_joint sc__law_joint rfl rfl fun cdv A outer s H E hr tk => ds_cons (ds_if (d_cmpT (o_eq hr.units) od_eq (d_call (ok__law_take T) cn__law_take (hr.mono (by decide)) rfl T.g__law_take T.F__law_take.kp T.b__law_take tk (da_cons (d_v 0) (da_cons (d_int) (da_nil)))) (d_int) (nomark _)) (ds_cons (ds_set (i := 3) sc__law_joint.nd rfl (Or.inl rfl) (d_op o_add od_add (d_int) (d_call (ok__law_take T) cn__law_take (hr.mono (by decide)) rfl T.g__law_take T.F__law_take.kp T.b__law_take tk (da_cons (d_v 0) (da_cons (d_ix (d_lst (da_cons (d_int) (da_cons (d_int) (da_nil)))) (d_v 2) (fun _ _ => rfl)) (da_nil)))))) (
    ds_last (ds_ret (d_tup (da_cons (d_str) (da_cons (d_v 3) (da_cons (d_call (ok__law_take T) cn__law_take (hr.mono (by decide)) rfl T.g__law_take T.F__law_take.kp T.b__law_take tk (da_cons (d_v 0) (da_cons (d_v 1) (da_nil)))) (da_nil)))))))) (ds_nil)) (
    ds_cons (ds_set (i := 4) sc__law_joint.nd rfl (Or.inl rfl) (d_op o_add od_add (d_int) (d_call (ok__law_take T) cn__law_take (hr.mono (by decide)) rfl T.g__law_take T.F__law_take.kp T.b__law_take tk (da_cons (d_v 0) (da_cons (d_ix (d_lst (da_cons (d_int) (da_cons (d_int) (da_nil)))) (d_v 2) (fun _ _ => rfl)) (da_nil)))))) (
    ds_cons (ds_set (i := 3) sc__law_joint.nd rfl (Or.inl rfl) (d_call (ok__law_take T) cn__law_take (hr.mono (by decide)) rfl T.g__law_take T.F__law_take.kp T.b__law_take tk (da_cons (d_v 0) (da_cons (d_ix (d_lst (da_cons (d_int) (da_cons (d_int) (da_nil)))) (d_v 2) (fun _ _ => rfl)) (da_nil))))) (
    ds_last (ds_ret (d_tup (da_cons (d_str) (da_cons (d_v 4) (da_cons (d_v 3) (da_cons (d_call (ok__law_take T) cn__law_take (hr.mono (by decide)) rfl T.g__law_take T.F__law_take.kp T.b__law_take tk (da_cons (d_v 0) (da_cons (d_v 4) (da_nil)))) (da_nil))))))))))
def lp__law_bare_0 : MS := mIfS (mTest (mChain (dLt) (dLe) (mC (.int 0)) (mVar 5) (mVar 7))) (mExpr (mBM isLst fAppend (mVar 6) (mCons (mOp dIx (mVar 6) (mOp dSub (mVar 7) (mVar 5))) (mNil)))) (mExpr (mBM isLst fAppend (mVar 6) (mCons (mOp dAdd (mC (.int 1)) (mCall run__law_take (mCons (mVar 0) (mCons (mOp dIx (mLst (mCons (mC (.int 40)) (mCons (mC (.int 5000)) (mNil)))) (mVar 4)) (mNil))))) (mNil))))
def lp__law_bare_1 : MS := mIfS (mTest (mChain (dLt) (dLe) (mC (.int 0)) (mVar 5) (mVar 7))) (mExpr (mBM isLst fAppend (mVar 8) (mCons (mOp dIx (mVar 8) (mOp dSub (mVar 7) (mVar 5))) (mNil)))) (mSeq (mSet 9 (mCB fMin (mCons (mCB fInt (mCons (mOp dIx (mVar 6) (mVar 7)) (mNil))) (mCons (mCB fInt (mCons (mOp dIx (mVar 6) (mOp dAdd (mVar 7) (mC (.int 1)))) (mNil))) (mNil))))) (
    mExpr (mBM isLst fAppend (mVar 8) (mCons (mCall run__law_joint (mCons (mVar 0) (mCons (mVar 9) (mCons (mVar 4) (mNil))))) (mNil)))))
def lp__law_bare_2 : MS := mRet (mTup (mCons (mCB fTuple (mCons (mVar 6) (mNil))) (mCons (mCB fTuple (mCons (mVar 8) (mNil))) (mNil))))
def lp__law_bare_3 : MS := mSeq (mSet 8 (mLst (mNil))) (
    mSeq (mFor (mRng1 (mCons (mOp dSub (mVar 3) (mC (.int 1))) (mNil))) (gN 7) ((lp__law_bare_1))) (
    (lp__law_bare_2)))
def lp__law_bare_4 : MS := mSeq (mSet 4 (mCB fInt (mCons (mOp (dEq) (mCall run__law_take (mCons (mVar 0) (mCons (mC (.int 8)) (mNil)))) (mC (.int 7))) (mNil)))) (
    mSeq (mSet 5 (mOp dIx (mLst (mCons (mC (.int 0)) (mCons (mC (.int 0)) (mCons (mC (.int 1)) (mCons (mC (.int 2)) (mNil)))))) (mCall run__law_take (mCons (mVar 0) (mCons (mC (.int 4)) (mNil)))))) (
    mSeq (mSet 6 (mLst (mNil))) (
    mSeq (mFor (mRng1 (mCons (mVar 3) (mNil))) (gN 7) ((lp__law_bare_0))) (
    (lp__law_bare_3)))))
def m__law_bare : MS := mSeq (mSet 3 (mCB fMax (mCons (mCB fInt (mCons (mVar 1) (mNil))) (mCons (mCall run__law_take (mCons (mVar 0) (mCons (mC (.int 9)) (mNil)))) (mNil))))) (
    mSeq (mIfS (mTest (mOp (dEq) (mCall run__law_take (mCons (mVar 0) (mCons (mVar 2) (mNil)))) (mOp dSub (mVar 2) (mC (.int 1))))) (mSet 3 (mCB fMax (mCons (mCB fInt (mCons (mVar 1) (mNil))) (mCons (mCall run__law_take (mCons (mVar 0) (mCons (mC (.int 41)) (mNil)))) (mNil))))) (mNext)) (
    (lp__law_bare_4)))
def run__law_bare : Rn := run 3 10 m__law_bare
theorem ent__law_bare {x0 x1 x2 : D} {hp : DH} : run__law_bare [x0, x1, x2] hp = fin (m__law_bare [some x0, some x1, some x2, none, none, none, none, none, none, none] hp) := (rfl)
theorem cn__law_bare : Cn 3 run__law_bare := cn_run
theorem ok__law_bare (T : Txt K mg) : FnOk P w K mg base (L2.CX P w) 3 T.a__law_bare T.fd__law_bare P__law_bare (spF ⟨P, w⟩ ⟨K, mg⟩ 3 run__law_bare) :=
  dfn_ok T.F__law_bare sc__law_bare rfl rfl fun cdv A outer s H E hr tk => ds_cons (ds_set (i := 3) sc__law_bare.nd rfl (Or.inl rfl) (d_cb (c_max rfl hr.units) cd_max rfl T.z_max (by decide +kernel) (da_cons (d_cty call_int1 cd_int rfl T.z_int (by decide +kernel) (da_cons (d_v 1) (da_nil))) (da_cons (d_call (ok__law_take T) cn__law_take (hr.mono (by decide)) rfl T.g__law_take T.F__law_take.kp T.b__law_take tk (da_cons (d_v 0) (da_cons (d_int) (da_nil)))) (da_nil))))) (
    ds_cons (ds_if (d_cmpT (o_eq hr.units) od_eq (d_call (ok__law_take T) cn__law_take (hr.mono (by decide)) rfl T.g__law_take T.F__law_take.kp T.b__law_take tk (da_cons (d_v 0) (da_cons (d_v 2) (da_nil)))) (d_op op_sub od_sub (d_v 2) (d_int)) (nomark _)) (ds_last (ds_set (i := 3) sc__law_bare.nd rfl (Or.inl rfl) (d_cb (c_max rfl hr.units) cd_max rfl T.z_max (by decide +kernel) (da_cons (d_cty call_int1 cd_int rfl T.z_int (by decide +kernel) (da_cons (d_v 1) (da_nil))) (da_cons (d_call (ok__law_take T) cn__law_take (hr.mono (by decide)) rfl T.g__law_take T.F__law_take.kp T.b__law_take tk (da_cons (d_v 0) (da_cons (d_int) (da_nil)))) (da_nil)))))) (ds_nil)) (
    ds_cons (ds_set (i := 4) sc__law_bare.nd rfl (Or.inl rfl) (d_cty call_int1 cd_int rfl T.z_int (by decide +kernel) (da_cons (d_cmp (o_eq hr.units) od_eq (d_call (ok__law_take T) cn__law_take (hr.mono (by decide)) rfl T.g__law_take T.F__law_take.kp T.b__law_take tk (da_cons (d_v 0) (da_cons (d_int) (da_nil)))) (d_int) (nomark _)) (da_nil)))) (
    ds_cons (ds_set (i := 5) sc__law_bare.nd rfl (Or.inl rfl) (d_ix (d_lst (da_cons (d_int) (da_cons (d_int) (da_cons (d_int) (da_cons (d_int) (da_nil)))))) (d_call (ok__law_take T) cn__law_take (hr.mono (by decide)) rfl T.g__law_take T.F__law_take.kp T.b__law_take tk (da_cons (d_v 0) (da_cons (d_int) (da_nil)))) (fun _ _ => rfl))) (
    ds_cons (ds_set (i := 6) sc__law_bare.nd rfl (Or.inl rfl) (d_lst (da_nil))) (
    ds_cons (ds_for (passes_of rfl) rfl (di_range1 rfl T.z_range (da_cons (d_v 3) (da_nil))) (GR.dg (pg_name (i := 7) sc__law_bare.nd rfl (Or.inl rfl)) (gr_n 7)) (ds_last (ds_if (dt_chain od_cmp od_cmp (pt_chain (o_lt hr.units) (o_le hr.units) (d_int) (d_v 5) (d_v 7))) (ds_last (ds_expr (d_bm (id := "list.append") ty_lst md_append (pe_bm PySem.F.plainAttrs_list PySem.F.slot_list_append PySem.F.type_list_append mt_append (d_v 6) (da_cons (d_ix (d_v 6) (d_op op_sub od_sub (d_v 7) (d_v 5)) (fun _ _ => rfl)) (da_nil)))))) (ds_last (ds_expr (d_bm (id := "list.append") ty_lst md_append (pe_bm PySem.F.plainAttrs_list PySem.F.slot_list_append PySem.F.type_list_append mt_append (d_v 6) (da_cons (d_op o_add od_add (d_int) (d_call (ok__law_take T) cn__law_take (hr.mono (by decide)) rfl T.g__law_take T.F__law_take.kp T.b__law_take tk (da_cons (d_v 0) (da_cons (d_ix (d_lst (da_cons (d_int) (da_cons (d_int) (da_nil)))) (d_v 4) (fun _ _ => rfl)) (da_nil))))) (da_nil))))))))) (
    ds_cons (ds_set (i := 8) sc__law_bare.nd rfl (Or.inl rfl) (d_lst (da_nil))) (
    ds_cons (ds_for (passes_of rfl) rfl (di_range1 rfl T.z_range (da_cons (d_op op_sub od_sub (d_v 3) (d_int)) (da_nil))) (GR.dg (pg_name (i := 7) sc__law_bare.nd rfl (Or.inl rfl)) (gr_n 7)) (ds_last (ds_if (dt_chain od_cmp od_cmp (pt_chain (o_lt hr.units) (o_le hr.units) (d_int) (d_v 5) (d_v 7))) (ds_last (ds_expr (d_bm (id := "list.append") ty_lst md_append (pe_bm PySem.F.plainAttrs_list PySem.F.slot_list_append PySem.F.type_list_append mt_append (d_v 8) (da_cons (d_ix (d_v 8) (d_op op_sub od_sub (d_v 7) (d_v 5)) (fun _ _ => rfl)) (da_nil)))))) (ds_cons (ds_set (i := 9) sc__law_bare.nd rfl (Or.inl rfl) (d_cb (c_min rfl hr.units) cd_min rfl T.z_min (by decide +kernel) (da_cons (d_cty call_int1 cd_int rfl T.z_int (by decide +kernel) (da_cons (d_ix (d_v 6) (d_v 7) (fun _ _ => rfl)) (da_nil))) (da_cons (d_cty call_int1 cd_int rfl T.z_int (by decide +kernel) (da_cons (d_ix (d_v 6) (d_op o_add od_add (d_v 7) (d_int)) (fun _ _ => rfl)) (da_nil))) (da_nil))))) (
    ds_last (ds_expr (d_bm (id := "list.append") ty_lst md_append (pe_bm PySem.F.plainAttrs_list PySem.F.slot_list_append PySem.F.type_list_append mt_append (d_v 8) (da_cons (d_call (ok__law_joint T) cn__law_joint (hr.mono (by decide)) rfl T.g__law_joint T.F__law_joint.kp T.b__law_joint tk (da_cons (d_v 0) (da_cons (d_v 9) (da_cons (d_v 4) (da_nil))))) (da_nil)))))))))) (
    ds_last (ds_ret (d_tup (da_cons (d_cty call_tuple_of cd_tuple rfl T.z_tuple (by decide +kernel) (da_cons (d_v 6) (da_nil))) (da_cons (d_cty call_tuple_of cd_tuple rfl T.z_tuple (by decide +kernel) (da_cons (d_v 8) (da_nil))) (da_nil)))))))))))))
def lp__law_glue_0 : MS := mSeq (mSet 7 (mOp dIx (mOp dIx (mVar 0) (mC (.int 1))) (mVar 6))) (
    mIfS (mTest (mOp (dEq) (mOp dIx (mVar 7) (mC (.int 0))) (mC (.str "gap")))) (mSeq (mSet 3 (mOp dAdd (mVar 3) (mOp dIx (mVar 7) (mC (.int 1))))) (
    mSeq (mSet 4 (mOp dAdd (mVar 4) (mOp dIx (mVar 7) (mC (.int 2))))) (
    mSet 5 (mOp dAdd (mVar 5) (mOp dIx (mVar 7) (mC (.int 3))))))) (mSet 3 (mOp dSub (mVar 3) (mOp dIx (mVar 7) (mC (.int 2))))))
def lp__law_glue_1 : MS := mRet (mLst (mCons (mVar 3) (mCons (mVar 4) (mCons (mVar 5) (mNil)))))
def lp__law_glue_2 : MS := mSeq (mIfS (mAnd (mTest (mOp (dLt) (mVar 2) (mCB fLen (mCons (mOp dIx (mVar 0) (mC (.int 0))) (mNil))))) (mTest (mOp (dEq) (mOp dIx (mOp dIx (mOp dIx (mVar 0) (mC (.int 1))) (mOp dSub (mVar 2) (mC (.int 1)))) (mC (.int 0))) (mC (.str "hyphen"))))) (mSet 3 (mOp dAdd (mVar 3) (mOp dIx (mOp dIx (mOp dIx (mVar 0) (mC (.int 1))) (mOp dSub (mVar 2) (mC (.int 1)))) (mC (.int 1))))) (mNext)) (
    (lp__law_glue_1))
def m__law_glue : MS := mSeq (mSet 3 (mCB fSum (mCons (mSl (mOp dIx (mVar 0) (mC (.int 0))) (mPart (mVar 1)) (mPart (mVar 2))) (mNil)))) (
    mSeq (mSet 4 (mC (.int 0))) (
    mSeq (mSet 5 (mC (.int 0))) (
    mSeq (mFor (mRng2 (mCons (mVar 1) (mCons (mOp dSub (mVar 2) (mC (.int 1))) (mNil)))) (gN 6) ((lp__law_glue_0))) (
    (lp__law_glue_2)))))
def run__law_glue : Rn := run 3 8 m__law_glue
theorem ent__law_glue {x0 x1 x2 : D} {hp : DH} : run__law_glue [x0, x1, x2] hp = fin (m__law_glue [some x0, some x1, some x2, none, none, none, none, none] hp) := (rfl)
theorem cn__law_glue : Cn 3 run__law_glue := cn_run
theorem ok__law_glue (T : Txt K mg) : FnOk P w K mg base (L2.CX P w) 1 T.a__law_glue T.fd__law_glue P__law_glue (spF ⟨P, w⟩ ⟨K, mg⟩ 3 run__law_glue) :=
  dfn_ok T.F__law_glue sc__law_glue rfl rfl fun cdv A outer s H E hr tk => ds_cons (ds_set (i := 3) sc__law_glue.nd rfl (Or.inl rfl) (d_cb (c_sum rfl) cd_sum rfl T.z_sum (by decide +kernel) (da_cons (d_sl s_slX (d_ix (d_v 0) (d_int) (fun _ _ => rfl)) (do_some (d_v 1)) (do_some (d_v 2))) (da_nil)))) (
    ds_cons (ds_set (i := 4) sc__law_glue.nd rfl (Or.inl rfl) (d_int)) (
    ds_cons (ds_set (i := 5) sc__law_glue.nd rfl (Or.inl rfl) (d_int)) (
    ds_cons (ds_for (passes_of rfl) rfl (di_range2 rfl T.z_range (da_cons (d_v 1) (da_cons (d_op op_sub od_sub (d_v 2) (d_int)) (da_nil)))) (GR.dg (pg_name (i := 6) sc__law_glue.nd rfl (Or.inl rfl)) (gr_n 6)) (ds_cons (ds_set (i := 7) sc__law_glue.nd rfl (Or.inl rfl) (d_ix (d_ix (d_v 0) (d_int) (fun _ _ => rfl)) (d_v 6) (fun _ _ => rfl))) (
    ds_last (ds_if (d_cmpT (o_eq hr.units) od_eq (d_ix (d_v 7) (d_int) (fun _ _ => rfl)) (d_str) (nomark _)) (ds_cons (ds_set (i := 3) sc__law_glue.nd rfl (Or.inl rfl) (d_op o_add od_add (d_v 3) (d_ix (d_v 7) (d_int) (fun _ _ => rfl)))) (
    ds_cons (ds_set (i := 4) sc__law_glue.nd rfl (Or.inl rfl) (d_op o_add od_add (d_v 4) (d_ix (d_v 7) (d_int) (fun _ _ => rfl)))) (
    ds_last (ds_set (i := 5) sc__law_glue.nd rfl (Or.inl rfl) (d_op o_add od_add (d_v 5) (d_ix (d_v 7) (d_int) (fun _ _ => rfl))))))) (ds_last (ds_set (i := 3) sc__law_glue.nd rfl (Or.inl rfl) (d_op op_sub od_sub (d_v 3) (d_ix (d_v 7) (d_int) (fun _ _ => rfl))))))))) (
    ds_cons (ds_if (d_wt (dw_and (d_cmpT (o_lt hr.units) od_cmp (d_v 2) (d_cb call_len cd_len rfl T.z_len (by decide +kernel) (da_cons (d_ix (d_v 0) (d_int) (fun _ _ => rfl)) (da_nil))) (nomark _)) (dw_and1 (d_cmpT (o_eq hr.units) od_eq (d_ix (d_ix (d_ix (d_v 0) (d_int) (fun _ _ => rfl)) (d_op op_sub od_sub (d_v 2) (d_int)) (fun _ _ => rfl)) (d_int) (fun _ _ => rfl)) (d_str) (nomark _))))) (ds_last (ds_set (i := 3) sc__law_glue.nd rfl (Or.inl rfl) (d_op o_add od_add (d_v 3) (d_ix (d_ix (d_ix (d_v 0) (d_int) (fun _ _ => rfl)) (d_op op_sub od_sub (d_v 2) (d_int)) (fun _ _ => rfl)) (d_int) (fun _ _ => rfl))))) (ds_nil)) (
    ds_last (ds_ret (d_lst (da_cons (d_v 3) (da_cons (d_v 4) (da_cons (d_v 5) (da_nil)))))))))))
def lp__law_possible_0 : MS := mRet (mOrV (mOp (dEq) (mOp dIx (mVar 3) (mC (.int 2))) (mC (.str "left"))) (mOrV (mOp (dEq) (mVar 2) (mCB fLen (mCons (mOp dIx (mVar 0) (mC (.int 0))) (mNil)))) (mOp (dLe) (mVar 5) (mOp dMul (mOp dIx (mVar 3) (mC (.int 6))) (mOp dIx (mVar 4) (mC (.int 1)))))))
def m__law_possible : MS := mSeq (mSet 4 (mCall run__law_glue (mCons (mVar 0) (mCons (mVar 1) (mCons (mVar 2) (mNil)))))) (
    mSeq (mSet 5 (mOp dSub (mOp dSub (mOp dIx (mVar 3) (mC (.int 0))) (mOp dMul (mOp dIx (mVar 3) (mC (.int 1))) (mCB fInt (mCons (mOp (dEq) (mVar 1) (mC (.int 0))) (mNil))))) (mOp dIx (mVar 4) (mC (.int 0))))) (
    mSeq (mIfS (mTest (mOp (dLt) (mVar 5) (mC (.int 0)))) (mRet (mAndV (mOp (dEq) (mOp dIx (mVar 3) (mC (.int 2))) (mC (.str "both"))) (mOp (dLe) (mUn dNeg (mVar 5)) (mOp dIx (mVar 4) (mC (.int 2)))))) (mNext)) (
    (lp__law_possible_0))))
def run__law_possible : Rn := run 4 6 m__law_possible
theorem ent__law_possible {x0 x1 x2 x3 : D} {hp : DH} : run__law_possible [x0, x1, x2, x3] hp = fin (m__law_possible [some x0, some x1, some x2, some x3, none, none] hp) := (rfl)
theorem cn__law_possible : Cn 4 run__law_possible := cn_run
theorem ok__law_possible (T : Txt K mg) : FnOk P w K mg base (L2.CX P w) 2 T.a__law_possible T.fd__law_possible P__law_possible (spF ⟨P, w⟩ ⟨K, mg⟩ 4 run__law_possible) :=
  dfn_ok T.F__law_possible sc__law_possible rfl rfl fun cdv A outer s H E hr tk => ds_cons (ds_set (i := 4) sc__law_possible.nd rfl (Or.inl rfl) (d_call (ok__law_glue T) cn__law_glue (hr.mono (by decide)) rfl T.g__law_glue T.F__law_glue.kp T.b__law_glue tk (da_cons (d_v 0) (da_cons (d_v 1) (da_cons (d_v 2) (da_nil)))))) (
    ds_cons (ds_set (i := 5) sc__law_possible.nd rfl (Or.inl rfl) (d_op op_sub od_sub (d_op op_sub od_sub (d_ix (d_v 3) (d_int) (fun _ _ => rfl)) (d_op o_mulI od_mul (d_ix (d_v 3) (d_int) (fun _ _ => rfl)) (d_cty call_int1 cd_int rfl T.z_int (by decide +kernel) (da_cons (d_cmp (o_eq hr.units) od_eq (d_v 1) (d_int) (nomark _)) (da_nil))))) (d_ix (d_v 4) (d_int) (fun _ _ => rfl)))) (
    ds_cons (ds_if (d_cmpT (o_lt hr.units) od_cmp (d_v 5) (d_int) (nomark _)) (ds_last (ds_ret (d_and (d_cmp (o_eq hr.units) od_eq (d_ix (d_v 3) (d_int) (fun _ _ => rfl)) (d_str) (nomark _)) (d_one (d_cmp (o_le hr.units) od_cmp (d_un un_neg ud_neg (d_v 5)) (d_ix (d_v 4) (d_int) (fun _ _ => rfl)) (nomark _)))))) (ds_nil)) (
    ds_last (ds_ret (d_or (d_cmp (o_eq hr.units) od_eq (d_ix (d_v 3) (d_int) (fun _ _ => rfl)) (d_str) (nomark _)) (d_or (d_cmp (o_eq hr.units) od_eq (d_v 2) (d_cb call_len cd_len rfl T.z_len (by decide +kernel) (da_cons (d_ix (d_v 0) (d_int) (fun _ _ => rfl)) (da_nil))) (nomark _)) (d_one (d_cmp (o_le hr.units) od_cmp (d_v 5) (d_op o_mulI od_mul (d_ix (d_v 3) (d_int) (fun _ _ => rfl)) (d_ix (d_v 4) (d_int) (fun _ _ => rfl))) (nomark _)))))))))
def m_Measure_init : MS := mSeq (mSetF ["Glue", "Measure"] "width" (mVar 0) (mVar 1)) (
    mSeq (mSetF ["Measure"] "indent" (mVar 0) (mVar 2)) (
    mSeq (mSetF ["Measure"] "align" (mVar 0) (mVar 3)) (
    mSeq (mSetF ["Measure"] "hyphen" (mVar 0) (mVar 4)) (
    mSeq (mSetF ["Measure"] "twin" (mVar 0) (mVar 5)) (
    mSeq (mSetF ["Measure"] "river" (mVar 0) (mVar 6)) (
    mSetF ["Measure"] "loose" (mVar 0) (mVar 7)))))))
def run_Measure_init : Rn := run 8 8 m_Measure_init
theorem ent_Measure_init {x0 x1 x2 x3 x4 x5 x6 x7 : D} {hp : DH} : run_Measure_init [x0, x1, x2, x3, x4, x5, x6, x7] hp = fin (m_Measure_init [some x0, some x1, some x2, some x3, some x4, some x5, some x6, some x7] hp) := (rfl)
theorem cn_Measure_init : Cn 8 run_Measure_init := cn_run
theorem ok_Measure_init (T : Txt K mg) : FnOk P w K mg base (L2.CX P w) 1 T.a_Measure_init T.fd_Measure_init P_Measure_init (spF ⟨P, w⟩ ⟨K, mg⟩ 8 run_Measure_init) :=
  dfn_ok T.F_Measure_init sc_Measure_init rfl rfl fun cdv A outer s H E hr tk => ds_cons (ds_setF (d_v 0) (d_v 1) T.f_width) (
    ds_cons (ds_setF (d_v 0) (d_v 2) T.f_indent) (
    ds_cons (ds_setF (d_v 0) (d_v 3) T.f_align) (
    ds_cons (ds_setF (d_v 0) (d_v 4) T.f_hyphen) (
    ds_cons (ds_setF (d_v 0) (d_v 5) T.f_twin) (
    ds_cons (ds_setF (d_v 0) (d_v 6) T.f_river) (
    ds_last (ds_setF (d_v 0) (d_v 7) T.f_loose)))))))
def m_Measure_of : MS := mSeq (mAsg (mVar 0) (gTp [1, 2, 3, 4, 5, 6, 7])) (
    mRet (mMake "Measure" run_Measure_init (mApp (mCons (mVar 1) (mNil)) (mCons (mVar 2) (mCons (mVar 3) (mCons (mVar 4) (mCons (mVar 5) (mCons (mVar 6) (mCons (mVar 7) (mNil))))))))))
def run_Measure_of : Rn := run 1 8 m_Measure_of
theorem ent_Measure_of {x0 : D} {hp : DH} : run_Measure_of [x0] hp = fin (m_Measure_of [some x0, none, none, none, none, none, none, none] hp) := (rfl)
theorem cn_Measure_of : Cn 1 run_Measure_of := cn_run
theorem ok_Measure_of (T : Txt K mg) : FnOk P w K mg base (L2.CX P w) 3 T.a_Measure_of T.fd_Measure_of P_Measure_of (spF ⟨P, w⟩ ⟨K, mg⟩ 1 run_Measure_of) :=
  dfn_ok T.F_Measure_of sc_Measure_of rfl rfl fun cdv A outer s H E hr tk => ds_cons (ds_asg (d_v 0) (GR.dg (pg_tup rfl (pgs_cons (pg_name (i := 1) sc_Measure_of.nd rfl (Or.inl rfl)) (pgs_cons (pg_name (i := 2) sc_Measure_of.nd rfl (Or.inl rfl)) (pgs_cons (pg_name (i := 3) sc_Measure_of.nd rfl (Or.inl rfl)) (pgs_cons (pg_name (i := 4) sc_Measure_of.nd rfl (Or.inl rfl)) (pgs_cons (pg_name (i := 5) sc_Measure_of.nd rfl (Or.inl rfl)) (pgs_cons (pg_name (i := 6) sc_Measure_of.nd rfl (Or.inl rfl)) (pgs_cons (pg_name (i := 7) sc_Measure_of.nd rfl (Or.inl rfl)) (pgs_nil))))))))) (gr_t [1, 2, 3, 4, 5, 6, 7]))) (
    ds_last (ds_ret (d_makeK T.c_Measure T.mk_Measure (ok_Measure_init T) cn_run (hr.mono (by decide)) rfl T.g_Measure T.bk_Measure (da_cons (d_v 1) (da_nil)) (dk_cons (d_v 2) (dk_cons (d_v 3) (dk_cons (d_v 4) (dk_cons (d_v 5) (dk_cons (d_v 6) (dk_cons (d_v 7) (dk_nil) (pk_cons (d_v 7) (dk_nil))) (pk_cons (d_v 6) (dk_cons (d_v 7) (dk_nil) (pk_cons (d_v 7) (dk_nil))))) (pk_cons (d_v 5) (dk_cons (d_v 6) (dk_cons (d_v 7) (dk_nil) (pk_cons (d_v 7) (dk_nil))) (pk_cons (d_v 6) (dk_cons (d_v 7) (dk_nil) (pk_cons (d_v 7) (dk_nil))))))) (pk_cons (d_v 4) (dk_cons (d_v 5) (dk_cons (d_v 6) (dk_cons (d_v 7) (dk_nil) (pk_cons (d_v 7) (dk_nil))) (pk_cons (d_v 6) (dk_cons (d_v 7) (dk_nil) (pk_cons (d_v 7) (dk_nil))))) (pk_cons (d_v 5) (dk_cons (d_v 6) (dk_cons (d_v 7) (dk_nil) (pk_cons (d_v 7) (dk_nil))) (pk_cons (d_v 6) (dk_cons (d_v 7) (dk_nil) (pk_cons (d_v 7) (dk_nil))))))))) (pk_cons (d_v 3) (dk_cons (d_v 4) (dk_cons (d_v 5) (dk_cons (d_v 6) (dk_cons (d_v 7) (dk_nil) (pk_cons (d_v 7) (dk_nil))) (pk_cons (d_v 6) (dk_cons (d_v 7) (dk_nil) (pk_cons (d_v 7) (dk_nil))))) (pk_cons (d_v 5) (dk_cons (d_v 6) (dk_cons (d_v 7) (dk_nil) (pk_cons (d_v 7) (dk_nil))) (pk_cons (d_v 6) (dk_cons (d_v 7) (dk_nil) (pk_cons (d_v 7) (dk_nil))))))) (pk_cons (d_v 4) (dk_cons (d_v 5) (dk_cons (d_v 6) (dk_cons (d_v 7) (dk_nil) (pk_cons (d_v 7) (dk_nil))) (pk_cons (d_v 6) (dk_cons (d_v 7) (dk_nil) (pk_cons (d_v 7) (dk_nil))))) (pk_cons (d_v 5) (dk_cons (d_v 6) (dk_cons (d_v 7) (dk_nil) (pk_cons (d_v 7) (dk_nil))) (pk_cons (d_v 6) (dk_cons (d_v 7) (dk_nil) (pk_cons (d_v 7) (dk_nil))))))))))) (pk_cons (d_v 2) (dk_cons (d_v 3) (dk_cons (d_v 4) (dk_cons (d_v 5) (dk_cons (d_v 6) (dk_cons (d_v 7) (dk_nil) (pk_cons (d_v 7) (dk_nil))) (pk_cons (d_v 6) (dk_cons (d_v 7) (dk_nil) (pk_cons (d_v 7) (dk_nil))))) (pk_cons (d_v 5) (dk_cons (d_v 6) (dk_cons (d_v 7) (dk_nil) (pk_cons (d_v 7) (dk_nil))) (pk_cons (d_v 6) (dk_cons (d_v 7) (dk_nil) (pk_cons (d_v 7) (dk_nil))))))) (pk_cons (d_v 4) (dk_cons (d_v 5) (dk_cons (d_v 6) (dk_cons (d_v 7) (dk_nil) (pk_cons (d_v 7) (dk_nil))) (pk_cons (d_v 6) (dk_cons (d_v 7) (dk_nil) (pk_cons (d_v 7) (dk_nil))))) (pk_cons (d_v 5) (dk_cons (d_v 6) (dk_cons (d_v 7) (dk_nil) (pk_cons (d_v 7) (dk_nil))) (pk_cons (d_v 6) (dk_cons (d_v 7) (dk_nil) (pk_cons (d_v 7) (dk_nil))))))))) (pk_cons (d_v 3) (dk_cons (d_v 4) (dk_cons (d_v 5) (dk_cons (d_v 6) (dk_cons (d_v 7) (dk_nil) (pk_cons (d_v 7) (dk_nil))) (pk_cons (d_v 6) (dk_cons (d_v 7) (dk_nil) (pk_cons (d_v 7) (dk_nil))))) (pk_cons (d_v 5) (dk_cons (d_v 6) (dk_cons (d_v 7) (dk_nil) (pk_cons (d_v 7) (dk_nil))) (pk_cons (d_v 6) (dk_cons (d_v 7) (dk_nil) (pk_cons (d_v 7) (dk_nil))))))) (pk_cons (d_v 4) (dk_cons (d_v 5) (dk_cons (d_v 6) (dk_cons (d_v 7) (dk_nil) (pk_cons (d_v 7) (dk_nil))) (pk_cons (d_v 6) (dk_cons (d_v 7) (dk_nil) (pk_cons (d_v 7) (dk_nil))))) (pk_cons (d_v 5) (dk_cons (d_v 6) (dk_cons (d_v 7) (dk_nil) (pk_cons (d_v 7) (dk_nil))) (pk_cons (d_v 6) (dk_cons (d_v 7) (dk_nil) (pk_cons (d_v 7) (dk_nil))))))))))))) rfl (ln_cons (ln_nil)) (ln_cons (ln_cons (ln_cons (ln_cons (ln_cons (ln_cons (ln_nil))))))) (pe_makeK T.mk_Measure (ok_Measure_init T) (hr.mono (by decide)) rfl T.g_Measure T.bk_Measure passL (da_cons (d_v 1) (da_nil)) (dk_cons (d_v 2) (dk_cons (d_v 3) (dk_cons (d_v 4) (dk_cons (d_v 5) (dk_cons (d_v 6) (dk_cons (d_v 7) (dk_nil) (pk_cons (d_v 7) (dk_nil))) (pk_cons (d_v 6) (dk_cons (d_v 7) (dk_nil) (pk_cons (d_v 7) (dk_nil))))) (pk_cons (d_v 5) (dk_cons (d_v 6) (dk_cons (d_v 7) (dk_nil) (pk_cons (d_v 7) (dk_nil))) (pk_cons (d_v 6) (dk_cons (d_v 7) (dk_nil) (pk_cons (d_v 7) (dk_nil))))))) (pk_cons (d_v 4) (dk_cons (d_v 5) (dk_cons (d_v 6) (dk_cons (d_v 7) (dk_nil) (pk_cons (d_v 7) (dk_nil))) (pk_cons (d_v 6) (dk_cons (d_v 7) (dk_nil) (pk_cons (d_v 7) (dk_nil))))) (pk_cons (d_v 5) (dk_cons (d_v 6) (dk_cons (d_v 7) (dk_nil) (pk_cons (d_v 7) (dk_nil))) (pk_cons (d_v 6) (dk_cons (d_v 7) (dk_nil) (pk_cons (d_v 7) (dk_nil))))))))) (pk_cons (d_v 3) (dk_cons (d_v 4) (dk_cons (d_v 5) (dk_cons (d_v 6) (dk_cons (d_v 7) (dk_nil) (pk_cons (d_v 7) (dk_nil))) (pk_cons (d_v 6) (dk_cons (d_v 7) (dk_nil) (pk_cons (d_v 7) (dk_nil))))) (pk_cons (d_v 5) (dk_cons (d_v 6) (dk_cons (d_v 7) (dk_nil) (pk_cons (d_v 7) (dk_nil))) (pk_cons (d_v 6) (dk_cons (d_v 7) (dk_nil) (pk_cons (d_v 7) (dk_nil))))))) (pk_cons (d_v 4) (dk_cons (d_v 5) (dk_cons (d_v 6) (dk_cons (d_v 7) (dk_nil) (pk_cons (d_v 7) (dk_nil))) (pk_cons (d_v 6) (dk_cons (d_v 7) (dk_nil) (pk_cons (d_v 7) (dk_nil))))) (pk_cons (d_v 5) (dk_cons (d_v 6) (dk_cons (d_v 7) (dk_nil) (pk_cons (d_v 7) (dk_nil))) (pk_cons (d_v 6) (dk_cons (d_v 7) (dk_nil) (pk_cons (d_v 7) (dk_nil))))))))))) (pk_cons (d_v 2) (dk_cons (d_v 3) (dk_cons (d_v 4) (dk_cons (d_v 5) (dk_cons (d_v 6) (dk_cons (d_v 7) (dk_nil) (pk_cons (d_v 7) (dk_nil))) (pk_cons (d_v 6) (dk_cons (d_v 7) (dk_nil) (pk_cons (d_v 7) (dk_nil))))) (pk_cons (d_v 5) (dk_cons (d_v 6) (dk_cons (d_v 7) (dk_nil) (pk_cons (d_v 7) (dk_nil))) (pk_cons (d_v 6) (dk_cons (d_v 7) (dk_nil) (pk_cons (d_v 7) (dk_nil))))))) (pk_cons (d_v 4) (dk_cons (d_v 5) (dk_cons (d_v 6) (dk_cons (d_v 7) (dk_nil) (pk_cons (d_v 7) (dk_nil))) (pk_cons (d_v 6) (dk_cons (d_v 7) (dk_nil) (pk_cons (d_v 7) (dk_nil))))) (pk_cons (d_v 5) (dk_cons (d_v 6) (dk_cons (d_v 7) (dk_nil) (pk_cons (d_v 7) (dk_nil))) (pk_cons (d_v 6) (dk_cons (d_v 7) (dk_nil) (pk_cons (d_v 7) (dk_nil))))))))) (pk_cons (d_v 3) (dk_cons (d_v 4) (dk_cons (d_v 5) (dk_cons (d_v 6) (dk_cons (d_v 7) (dk_nil) (pk_cons (d_v 7) (dk_nil))) (pk_cons (d_v 6) (dk_cons (d_v 7) (dk_nil) (pk_cons (d_v 7) (dk_nil))))) (pk_cons (d_v 5) (dk_cons (d_v 6) (dk_cons (d_v 7) (dk_nil) (pk_cons (d_v 7) (dk_nil))) (pk_cons (d_v 6) (dk_cons (d_v 7) (dk_nil) (pk_cons (d_v 7) (dk_nil))))))) (pk_cons (d_v 4) (dk_cons (d_v 5) (dk_cons (d_v 6) (dk_cons (d_v 7) (dk_nil) (pk_cons (d_v 7) (dk_nil))) (pk_cons (d_v 6) (dk_cons (d_v 7) (dk_nil) (pk_cons (d_v 7) (dk_nil))))) (pk_cons (d_v 5) (dk_cons (d_v 6) (dk_cons (d_v 7) (dk_nil) (pk_cons (d_v 7) (dk_nil))) (pk_cons (d_v 6) (dk_cons (d_v 7) (dk_nil) (pk_cons (d_v 7) (dk_nil)))))))))))))))))
def m__law_is_integer : MS := mRet (mAndV (mIsi [("NoneType", false), ("bool", true), ("int", true), ("str", false), ("tuple", false), ("list", false)] [] (mVar 0)) (mNotV (mTru (mIsi [("NoneType", false), ("bool", true), ("int", false), ("str", false), ("tuple", false), ("list", false)] [] (mVar 0)))))
def run__law_is_integer : Rn := run 1 1 m__law_is_integer
theorem ent__law_is_integer {x0 : D} {hp : DH} : run__law_is_integer [x0] hp = fin (m__law_is_integer [some x0] hp) := (rfl)
theorem cn__law_is_integer : Cn 1 run__law_is_integer := cn_run
theorem ok__law_is_integer (T : Txt K mg) : FnOk P w K mg base (L2.CX P w) 1 T.a__law_is_integer T.fd__law_is_integer P__law_is_integer (spF ⟨P, w⟩ ⟨K, mg⟩ 1 run__law_is_integer) :=
  dfn_ok T.F__law_is_integer sc__law_is_integer rfl rfl fun cdv A outer s H E hr tk => ds_last (ds_ret (d_and (d_isi (.ty "int") kit_int (by intro q hq; cases hq) rfl T.z_isinstance (by decide +kernel) (d_v 0) (pe_bltn (by rfl) T.z_int (by decide +kernel) rfl)) (d_one (d_not (d_isi (.ty "bool") kit_bool (by intro q hq; cases hq) rfl T.z_isinstance (by decide +kernel) (d_v 0) (pe_bltn (by rfl) T.z_bool (by decide +kernel) rfl))))))
def m__law_overlap : MS := mRet (mOp (dLt) (mCB fMax (mCons (mCB fInt (mCons (mOp dIx (mVar 0) (mC (.int 0))) (mNil))) (mCons (mCB fInt (mCons (mOp dIx (mVar 1) (mC (.int 0))) (mNil))) (mNil)))) (mCB fMin (mCons (mCB fInt (mCons (mOp dIx (mVar 0) (mC (.int 1))) (mNil))) (mCons (mCB fInt (mCons (mOp dIx (mVar 1) (mC (.int 1))) (mNil))) (mNil)))))
def run__law_overlap : Rn := run 2 2 m__law_overlap
theorem ent__law_overlap {x0 x1 : D} {hp : DH} : run__law_overlap [x0, x1] hp = fin (m__law_overlap [some x0, some x1] hp) := (rfl)
theorem cn__law_overlap : Cn 2 run__law_overlap := cn_run
theorem ok__law_overlap (T : Txt K mg) : FnOk P w K mg base (L2.CX P w) 1 T.a__law_overlap T.fd__law_overlap P__law_overlap (spF ⟨P, w⟩ ⟨K, mg⟩ 2 run__law_overlap) :=
  dfn_ok T.F__law_overlap sc__law_overlap rfl rfl fun cdv A outer s H E hr tk => ds_last (ds_ret (d_cmp (o_lt hr.units) od_cmp (d_cb (c_max rfl hr.units) cd_max rfl T.z_max (by decide +kernel) (da_cons (d_cty call_int1 cd_int rfl T.z_int (by decide +kernel) (da_cons (d_ix (d_v 0) (d_int) (fun _ _ => rfl)) (da_nil))) (da_cons (d_cty call_int1 cd_int rfl T.z_int (by decide +kernel) (da_cons (d_ix (d_v 1) (d_int) (fun _ _ => rfl)) (da_nil))) (da_nil)))) (d_cb (c_min rfl hr.units) cd_min rfl T.z_min (by decide +kernel) (da_cons (d_cty call_int1 cd_int rfl T.z_int (by decide +kernel) (da_cons (d_ix (d_v 0) (d_int) (fun _ _ => rfl)) (da_nil))) (da_cons (d_cty call_int1 cd_int rfl T.z_int (by decide +kernel) (da_cons (d_ix (d_v 1) (d_int) (fun _ _ => rfl)) (da_nil))) (da_nil)))) (nomark _)))
def lp__law_meet_0 : MS := mSeq (mSet 4 (mComp (mSrcA (mVar 0)) [5] (gN 5) (mTru (mCall run__law_overlap (mCons (mVar 5) (mCons (mVar 3) (mNil))))) (mVar 5))) (
    mIfS (mTest (mOp (dGt) (mCB fLen (mCons (mVar 4) (mNil))) (mC (.int 0)))) (mSet 2 (mOp dAdd (mVar 2) (mC (.int 1)))) (mNext))
def m__law_meet : MS := mSeq (mSet 2 (mC (.int 0))) (
    mSeq (mFor (mSrcA (mVar 1)) (gN 3) ((lp__law_meet_0))) (
    mRet (mVar 2)))
def run__law_meet : Rn := run 2 6 m__law_meet
theorem ent__law_meet {x0 x1 : D} {hp : DH} : run__law_meet [x0, x1] hp = fin (m__law_meet [some x0, some x1, none, none, none, none] hp) := (rfl)
theorem cn__law_meet : Cn 2 run__law_meet := cn_run
theorem ok__law_meet (T : Txt K mg) : FnOk P w K mg base (L2.CX P w) 2 T.a__law_meet T.fd__law_meet P__law_meet (spF ⟨P, w⟩ ⟨K, mg⟩ 2 run__law_meet) :=
  dfn_ok T.F__law_meet sc__law_meet rfl rfl fun cdv A outer s H E hr tk => ds_cons (ds_set (i := 2) sc__law_meet.nd rfl (Or.inl rfl) (d_int)) (
    ds_cons (ds_for (passes_of rfl) rfl (di_any (d_v 1)) (GR.dg (pg_name (i := 3) sc__law_meet.nd rfl (Or.inr rfl)) (gr_n 3)) (ds_cons (ds_setLc (i := 4) (own := [("up", 5)]) rfl sc__law_meet.nd rfl rfl (sw_true rfl rfl rfl (by decide +kernel)) (di_any (d_v 0)) (blkOk_by (own := [("up", 5)]) (N := N__law_meet) (sc := defScope s__law_meet) (by decide +kernel)) (gr_n 5) (keeps_n (by simp)) (fun _ _ _ _ _ => pg_name (i := 5) sc__law_meet.nd rfl (Or.inl rfl)) (fun _ _ _ _ _ => dts_one (dt_tru (d_call (ok__law_overlap T) cn__law_overlap (hr.mono (by decide)) rfl T.g__law_overlap T.F__law_overlap.kp T.b__law_overlap takes0 (da_cons (d_v 5) (da_cons (d_v 3) (da_nil)))))) (fun _ _ _ _ _ => d_v 5)) (
    ds_last (ds_if (d_cmpT (o_gt hr.units) od_cmp (d_cb call_len cd_len rfl T.z_len (by decide +kernel) (da_cons (d_v 4) (da_nil))) (d_int) (nomark _)) (ds_last (ds_set (i := 2) sc__law_meet.nd rfl (Or.inl rfl) (d_op o_add od_add (d_v 2) (d_int)))) (ds_nil))))) (
    ds_last (ds_ret (d_v 2))))
def lp__law_spans_0 : MS := mExpr (mBM isLst fAppend (mVar 8) (mCons (mTup (mCons (mVar 12) (mCons (mOp dAdd (mVar 5) (mVar 10)) (mNil)))) (mNil)))
def lp__law_spans_1 : MS := mSeq (mIfS (mTest (mOp (dLt) (mVar 6) (mC (.int 0)))) (mSeq (mSet 9 (mOp dAdd (mVar 9) (mOp dIx (mOp dIx (mOp dIx (mVar 0) (mC (.int 1))) (mVar 11)) (mC (.int 3))))) (
    mSet 10 (mUn dNeg (mOp dDiv (mOp dMul (mUn dNeg (mVar 6)) (mVar 9)) (mOp dIx (mVar 4) (mC (.int 2))))))) (mNext)) (
    (lp__law_spans_0))
def lp__law_spans_2 : MS := mIfS (mAnd (mTest (mOp (dLt) (mVar 11) (mOp dSub (mVar 2) (mC (.int 1))))) (mTest (mOp (dEq) (mOp dIx (mOp dIx (mOp dIx (mVar 0) (mC (.int 1))) (mVar 11)) (mC (.int 0))) (mC (.str "gap"))))) (mSeq (mSet 12 (mOp dAdd (mVar 5) (mVar 10))) (
    mSeq (mSet 5 (mOp dAdd (mVar 5) (mOp dIx (mOp dIx (mOp dIx (mVar 0) (mC (.int 1))) (mVar 11)) (mC (.int 1))))) (
    mSeq (mIfS (mTest (mOp (dGt) (mVar 6) (mC (.int 0)))) (mSeq (mSet 9 (mOp dAdd (mVar 9) (mOp dIx (mOp dIx (mOp dIx (mVar 0) (mC (.int 1))) (mVar 11)) (mC (.int 2))))) (
    mSet 10 (mOp dDiv (mOp dMul (mVar 6) (mVar 9)) (mOp dIx (mVar 4) (mC (.int 1)))))) (mNext)) (
    (lp__law_spans_1))))) (mNext)
def lp__law_spans_3 : MS := mSeq (mExpr (mBM isLst fAppend (mVar 7) (mCons (mOp dAdd (mVar 5) (mVar 10)) (mNil)))) (
    mSeq (mSet 5 (mOp dAdd (mVar 5) (mOp dIx (mOp dIx (mVar 0) (mC (.int 0))) (mVar 11)))) (
    mSeq (mIfS (mAnd (mTest (mOp (dLt) (mVar 11) (mOp dSub (mVar 2) (mC (.int 1))))) (mTest (mOp (dEq) (mOp dIx (mOp dIx (mOp dIx (mVar 0) (mC (.int 1))) (mVar 11)) (mC (.int 0))) (mC (.str "hyphen"))))) (mSet 5 (mOp dSub (mVar 5) (mOp dIx (mOp dIx (mOp dIx (mVar 0) (mC (.int 1))) (mVar 11)) (mC (.int 2))))) (mNext)) (
    (lp__law_spans_2))))
def lp__law_spans_4 : MS := mRet (mLst (mCons (mVar 7) (mCons (mVar 8) (mNil))))
def lp__law_spans_5 : MS := mSeq (mSet 7 (mLst (mNil))) (
    mSeq (mSet 8 (mLst (mNil))) (
    mSeq (mSet 9 (mC (.int 0))) (
    mSeq (mSet 10 (mC (.int 0))) (
    mSeq (mFor (mRng2 (mCons (mVar 1) (mCons (mVar 2) (mNil)))) (gN 11) ((lp__law_spans_3))) (
    (lp__law_spans_4))))))
def m__law_spans : MS := mSeq (mSet 4 (mCall run__law_glue (mCons (mVar 0) (mCons (mVar 1) (mCons (mVar 2) (mNil)))))) (
    mSeq (mSet 5 (mOp dMul (mOp dIx (mVar 3) (mC (.int 1))) (mCB fInt (mCons (mOp (dEq) (mVar 1) (mC (.int 0))) (mNil))))) (
    mSeq (mSet 6 (mOp dSub (mOp dSub (mOp dIx (mVar 3) (mC (.int 0))) (mVar 5)) (mOp dIx (mVar 4) (mC (.int 0))))) (
    mSeq (mIfS (mOr (mTest (mOp (dEq) (mOp dIx (mVar 3) (mC (.int 2))) (mC (.str "left")))) (mAnd (mTest (mOp (dGt) (mVar 6) (mC (.int 0)))) (mTest (mOp (dEq) (mVar 2) (mCB fLen (mCons (mOp dIx (mVar 0) (mC (.int 0))) (mNil))))))) (mSet 6 (mC (.int 0))) (mNext)) (
    (lp__law_spans_5)))))
def run__law_spans : Rn := run 4 13 m__law_spans
theorem ent__law_spans {x0 x1 x2 x3 : D} {hp : DH} : run__law_spans [x0, x1, x2, x3] hp = fin (m__law_spans [some x0, some x1, some x2, some x3, none, none, none, none, none, none, none, none, none] hp) := (rfl)
theorem cn__law_spans : Cn 4 run__law_spans := cn_run
theorem ok__law_spans (T : Txt K mg) : FnOk P w K mg base (L2.CX P w) 2 T.a__law_spans T.fd__law_spans P__law_spans (spF ⟨P, w⟩ ⟨K, mg⟩ 4 run__law_spans) :=
  dfn_ok T.F__law_spans sc__law_spans rfl rfl fun cdv A outer s H E hr tk => ds_cons (ds_set (i := 4) sc__law_spans.nd rfl (Or.inl rfl) (d_call (ok__law_glue T) cn__law_glue (hr.mono (by decide)) rfl T.g__law_glue T.F__law_glue.kp T.b__law_glue tk (da_cons (d_v 0) (da_cons (d_v 1) (da_cons (d_v 2) (da_nil)))))) (
    ds_cons (ds_set (i := 5) sc__law_spans.nd rfl (Or.inl rfl) (d_op o_mulI od_mul (d_ix (d_v 3) (d_int) (fun _ _ => rfl)) (d_cty call_int1 cd_int rfl T.z_int (by decide +kernel) (da_cons (d_cmp (o_eq hr.units) od_eq (d_v 1) (d_int) (nomark _)) (da_nil))))) (
    ds_cons (ds_set (i := 6) sc__law_spans.nd rfl (Or.inl rfl) (d_op op_sub od_sub (d_op op_sub od_sub (d_ix (d_v 3) (d_int) (fun _ _ => rfl)) (d_v 5)) (d_ix (d_v 4) (d_int) (fun _ _ => rfl)))) (
    ds_cons (ds_if (d_wt (dw_or (d_cmpT (o_eq hr.units) od_eq (d_ix (d_v 3) (d_int) (fun _ _ => rfl)) (d_str) (nomark _)) (dw_or1 (d_wt (dw_and (d_cmpT (o_gt hr.units) od_cmp (d_v 6) (d_int) (nomark _)) (dw_and1 (d_cmpT (o_eq hr.units) od_eq (d_v 2) (d_cb call_len cd_len rfl T.z_len (by decide +kernel) (da_cons (d_ix (d_v 0) (d_int) (fun _ _ => rfl)) (da_nil))) (nomark _)))))))) (ds_last (ds_set (i := 6) sc__law_spans.nd rfl (Or.inl rfl) (d_int))) (ds_nil)) (
    ds_cons (ds_set (i := 7) sc__law_spans.nd rfl (Or.inl rfl) (d_lst (da_nil))) (
    ds_cons (ds_set (i := 8) sc__law_spans.nd rfl (Or.inl rfl) (d_lst (da_nil))) (
    ds_cons (ds_set (i := 9) sc__law_spans.nd rfl (Or.inl rfl) (d_int)) (
    ds_cons (ds_set (i := 10) sc__law_spans.nd rfl (Or.inl rfl) (d_int)) (
    ds_cons (ds_for (passes_of rfl) rfl (di_range2 rfl T.z_range (da_cons (d_v 1) (da_cons (d_v 2) (da_nil)))) (GR.dg (pg_name (i := 11) sc__law_spans.nd rfl (Or.inl rfl)) (gr_n 11)) (ds_cons (ds_expr (d_bm (id := "list.append") ty_lst md_append (pe_bm PySem.F.plainAttrs_list PySem.F.slot_list_append PySem.F.type_list_append mt_append (d_v 7) (da_cons (d_op o_add od_add (d_v 5) (d_v 10)) (da_nil))))) (
    ds_cons (ds_set (i := 5) sc__law_spans.nd rfl (Or.inl rfl) (d_op o_add od_add (d_v 5) (d_ix (d_ix (d_v 0) (d_int) (fun _ _ => rfl)) (d_v 11) (fun _ _ => rfl)))) (
    ds_cons (ds_if (d_wt (dw_and (d_cmpT (o_lt hr.units) od_cmp (d_v 11) (d_op op_sub od_sub (d_v 2) (d_int)) (nomark _)) (dw_and1 (d_cmpT (o_eq hr.units) od_eq (d_ix (d_ix (d_ix (d_v 0) (d_int) (fun _ _ => rfl)) (d_v 11) (fun _ _ => rfl)) (d_int) (fun _ _ => rfl)) (d_str) (nomark _))))) (ds_last (ds_set (i := 5) sc__law_spans.nd rfl (Or.inl rfl) (d_op op_sub od_sub (d_v 5) (d_ix (d_ix (d_ix (d_v 0) (d_int) (fun _ _ => rfl)) (d_v 11) (fun _ _ => rfl)) (d_int) (fun _ _ => rfl))))) (ds_nil)) (
    ds_last (ds_if (d_wt (dw_and (d_cmpT (o_lt hr.units) od_cmp (d_v 11) (d_op op_sub od_sub (d_v 2) (d_int)) (nomark _)) (dw_and1 (d_cmpT (o_eq hr.units) od_eq (d_ix (d_ix (d_ix (d_v 0) (d_int) (fun _ _ => rfl)) (d_v 11) (fun _ _ => rfl)) (d_int) (fun _ _ => rfl)) (d_str) (nomark _))))) (ds_cons (ds_set (i := 12) sc__law_spans.nd rfl (Or.inl rfl) (d_op o_add od_add (d_v 5) (d_v 10))) (
    ds_cons (ds_set (i := 5) sc__law_spans.nd rfl (Or.inl rfl) (d_op o_add od_add (d_v 5) (d_ix (d_ix (d_ix (d_v 0) (d_int) (fun _ _ => rfl)) (d_v 11) (fun _ _ => rfl)) (d_int) (fun _ _ => rfl)))) (
    ds_cons (ds_if (d_cmpT (o_gt hr.units) od_cmp (d_v 6) (d_int) (nomark _)) (ds_cons (ds_set (i := 9) sc__law_spans.nd rfl (Or.inl rfl) (d_op o_add od_add (d_v 9) (d_ix (d_ix (d_ix (d_v 0) (d_int) (fun _ _ => rfl)) (d_v 11) (fun _ _ => rfl)) (d_int) (fun _ _ => rfl)))) (
    ds_last (ds_set (i := 10) sc__law_spans.nd rfl (Or.inl rfl) (d_op op_fdivW od_div (d_op o_mulI od_mul (d_v 6) (d_v 9)) (d_ix (d_v 4) (d_int) (fun _ _ => rfl)))))) (ds_nil)) (
    ds_cons (ds_if (d_cmpT (o_lt hr.units) od_cmp (d_v 6) (d_int) (nomark _)) (ds_cons (ds_set (i := 9) sc__law_spans.nd rfl (Or.inl rfl) (d_op o_add od_add (d_v 9) (d_ix (d_ix (d_ix (d_v 0) (d_int) (fun _ _ => rfl)) (d_v 11) (fun _ _ => rfl)) (d_int) (fun _ _ => rfl)))) (
    ds_last (ds_set (i := 10) sc__law_spans.nd rfl (Or.inl rfl) (d_un un_neg ud_neg (d_op op_fdivW od_div (d_op o_mulI od_mul (d_un un_neg ud_neg (d_v 6)) (d_v 9)) (d_ix (d_v 4) (d_int) (fun _ _ => rfl))))))) (ds_nil)) (
    ds_last (ds_expr (d_bm (id := "list.append") ty_lst md_append (pe_bm PySem.F.plainAttrs_list PySem.F.slot_list_append PySem.F.type_list_append mt_append (d_v 8) (da_cons (d_tup (da_cons (d_v 12) (da_cons (d_op o_add od_add (d_v 5) (d_v 10)) (da_nil)))) (da_nil)))))))))) (ds_nil))))))) (
    ds_last (ds_ret (d_lst (da_cons (d_v 7) (da_cons (d_v 8) (da_nil))))))))))))))
def lp__law_twin_0 : MS := mRet (mOp dMul (mOp dIx (mVar 2) (mC (.int 4))) (mCB fInt (mCons (mOp (dEq) (mOp dIx (mOp dIx (mOp dIx (mVar 0) (mC (.int 1))) (mOp dSub (mOp dIx (mVar 1) (mC (.int 1))) (mC (.int 1)))) (mC (.int 0))) (mC (.str "hyphen"))) (mNil))))
def m__law_twin : MS := mSeq (mIfS (mOr (mTest (mOp (dEq) (mOp dIx (mVar 1) (mC (.int 2))) (mCB fLen (mCons (mOp dIx (mVar 0) (mC (.int 0))) (mNil))))) (mTest (mOp (dNe) (mOp dIx (mOp dIx (mOp dIx (mVar 0) (mC (.int 1))) (mOp dSub (mOp dIx (mVar 1) (mC (.int 2))) (mC (.int 1)))) (mC (.int 0))) (mC (.str "hyphen"))))) (mRet (mC (.int 0))) (mNext)) (
    (lp__law_twin_0))
def run__law_twin : Rn := run 3 3 m__law_twin
theorem ent__law_twin {x0 x1 x2 : D} {hp : DH} : run__law_twin [x0, x1, x2] hp = fin (m__law_twin [some x0, some x1, some x2] hp) := (rfl)
theorem cn__law_twin : Cn 3 run__law_twin := cn_run
theorem ok__law_twin (T : Txt K mg) : FnOk P w K mg base (L2.CX P w) 1 T.a__law_twin T.fd__law_twin P__law_twin (spF ⟨P, w⟩ ⟨K, mg⟩ 3 run__law_twin) :=
  dfn_ok T.F__law_twin sc__law_twin rfl rfl fun cdv A outer s H E hr tk => ds_cons (ds_if (d_wt (dw_or (d_cmpT (o_eq hr.units) od_eq (d_ix (d_v 1) (d_int) (fun _ _ => rfl)) (d_cb call_len cd_len rfl T.z_len (by decide +kernel) (da_cons (d_ix (d_v 0) (d_int) (fun _ _ => rfl)) (da_nil))) (nomark _)) (dw_or1 (d_cmpT (o_ne hr.units) od_ne (d_ix (d_ix (d_ix (d_v 0) (d_int) (fun _ _ => rfl)) (d_op op_sub od_sub (d_ix (d_v 1) (d_int) (fun _ _ => rfl)) (d_int)) (fun _ _ => rfl)) (d_int) (fun _ _ => rfl)) (d_str) (nomark _))))) (ds_last (ds_ret (d_int))) (ds_nil)) (
    ds_last (ds_ret (d_op o_mulI od_mul (d_ix (d_v 2) (d_int) (fun _ _ => rfl)) (d_cty call_int1 cd_int rfl T.z_int (by decide +kernel) (da_cons (d_cmp (o_eq hr.units) od_eq (d_ix (d_ix (d_ix (d_v 0) (d_int) (fun _ _ => rfl)) (d_op op_sub od_sub (d_ix (d_v 1) (d_int) (fun _ _ => rfl)) (d_int)) (fun _ _ => rfl)) (d_int) (fun _ _ => rfl)) (d_str) (nomark _)) (da_nil))))))
def lp_count_overlapping_0 : MS := mIfS (mAnd (mTest (mOp (dLt) (mVar 3) (mCB fLen (mCons (mVar 0) (mNil))))) (mTest (mOp (dLt) (mOp dIx (mOp dIx (mVar 0) (mVar 3)) (mC (.int 0))) (mVar 5)))) (mSet 2 (mOp dAdd (mVar 2) (mC (.int 1)))) (mNext)
def lp_count_overlapping_1 : MS := mSeq (mWhile (mAnd (mTest (mOp (dLt) (mVar 3) (mCB fLen (mCons (mVar 0) (mNil))))) (mTest (mOp (dLe) (mOp dIx (mOp dIx (mVar 0) (mVar 3)) (mC (.int 1))) (mVar 4)))) (mSet 3 (mOp dAdd (mVar 3) (mC (.int 1)))) 1099511627776) (
    (lp_count_overlapping_0))
def m_count_overlapping : MS := mSeq (mSet 2 (mC (.int 0))) (
    mSeq (mSet 3 (mC (.int 0))) (
    mSeq (mFor (mSrcA (mVar 1)) (gTp [4, 5]) ((lp_count_overlapping_1))) (
    mRet (mVar 2))))
def run_count_overlapping : Rn := run 2 6 m_count_overlapping
theorem ent_count_overlapping {x0 x1 : D} {hp : DH} : run_count_overlapping [x0, x1] hp = fin (m_count_overlapping [some x0, some x1, none, none, none, none] hp) := (rfl)
theorem cn_count_overlapping : Cn 2 run_count_overlapping := cn_run
theorem ok_count_overlapping (T : Txt K mg) : FnOk P w K mg base (L2.CX P w) 1 T.a_count_overlapping T.fd_count_overlapping P_count_overlapping (spF ⟨P, w⟩ ⟨K, mg⟩ 2 run_count_overlapping) :=
  dfn_ok T.F_count_overlapping sc_count_overlapping rfl rfl fun cdv A outer s H E hr tk => ds_cons (ds_set (i := 2) sc_count_overlapping.nd rfl (Or.inl rfl) (d_int)) (
    ds_cons (ds_set (i := 3) sc_count_overlapping.nd rfl (Or.inl rfl) (d_int)) (
    ds_cons (ds_for (passes_of rfl) rfl (di_any (d_v 1)) (GR.dg (pg_tup rfl (pgs_cons (pg_name (i := 4) sc_count_overlapping.nd rfl (Or.inl rfl)) (pgs_cons (pg_name (i := 5) sc_count_overlapping.nd rfl (Or.inl rfl)) (pgs_nil)))) (gr_t [4, 5])) (ds_cons (ds_while 1099511627776 (passes_of rfl) (d_wt (dw_and (d_cmpT (o_lt hr.units) od_cmp (d_v 3) (d_cb call_len cd_len rfl T.z_len (by decide +kernel) (da_cons (d_v 0) (da_nil))) (nomark _)) (dw_and1 (d_cmpT (o_le hr.units) od_cmp (d_ix (d_ix (d_v 0) (d_v 3) (fun _ _ => rfl)) (d_int) (fun _ _ => rfl)) (d_v 4) (nomark _))))) (ds_last (ds_set (i := 3) sc_count_overlapping.nd rfl (Or.inl rfl) (d_op o_add od_add (d_v 3) (d_int))))) (
    ds_last (ds_if (d_wt (dw_and (d_cmpT (o_lt hr.units) od_cmp (d_v 3) (d_cb call_len cd_len rfl T.z_len (by decide +kernel) (da_cons (d_v 0) (da_nil))) (nomark _)) (dw_and1 (d_cmpT (o_lt hr.units) od_cmp (d_ix (d_ix (d_v 0) (d_v 3) (fun _ _ => rfl)) (d_int) (fun _ _ => rfl)) (d_v 5) (nomark _))))) (ds_last (ds_set (i := 2) sc_count_overlapping.nd rfl (Or.inl rfl) (d_op o_add od_add (d_v 2) (d_int)))) (ds_nil))))) (
    ds_last (ds_ret (d_v 2)))))
def m_Glue_init : MS := mSeq (mSetF ["Glue", "Measure"] "width" (mVar 0) (mVar 1)) (
    mSeq (mSetF ["Glue"] "stretch" (mVar 0) (mVar 2)) (
    mSetF ["Glue"] "shrink" (mVar 0) (mVar 3)))
def run_Glue_init : Rn := run 4 4 m_Glue_init
theorem ent_Glue_init {x0 x1 x2 x3 : D} {hp : DH} : run_Glue_init [x0, x1, x2, x3] hp = fin (m_Glue_init [some x0, some x1, some x2, some x3] hp) := (rfl)
theorem cn_Glue_init : Cn 4 run_Glue_init := cn_run
theorem ok_Glue_init (T : Txt K mg) : FnOk P w K mg base (L2.CX P w) 1 T.a_Glue_init T.fd_Glue_init P_Glue_init (spF ⟨P, w⟩ ⟨K, mg⟩ 4 run_Glue_init) :=
  dfn_ok T.F_Glue_init sc_Glue_init rfl rfl fun cdv A outer s H E hr tk => ds_cons (ds_setF (d_v 0) (d_v 1) T.f_width) (
    ds_cons (ds_setF (d_v 0) (d_v 2) T.f_stretch) (
    ds_last (ds_setF (d_v 0) (d_v 3) T.f_shrink)))
def lp_Glue_add_0 : MS := mRet (mMake "Glue" run_Glue_init (mA0 (mCons (mOp dAdd (mFld ["Glue", "Measure"] "width" (mVar 0)) (mFld ["Glue", "Measure"] "width" (mVar 1))) (mCons (mOp dAdd (mFld ["Glue"] "stretch" (mVar 0)) (mFld ["Glue"] "stretch" (mVar 1))) (mCons (mOp dAdd (mFld ["Glue"] "shrink" (mVar 0)) (mFld ["Glue"] "shrink" (mVar 1))) (mNil))))))
def m_Glue_add : MS := mSeq (mIfS (mNot (mTru (mIsi [("int", false), ("bool", false)] [("Glue", true)] (mVar 1)))) (mNo) (mNext)) (
    (lp_Glue_add_0))
def run_Glue_add : Rn := run 2 2 m_Glue_add
theorem ent_Glue_add {x0 x1 : D} {hp : DH} : run_Glue_add [x0, x1] hp = fin (m_Glue_add [some x0, some x1] hp) := (rfl)
theorem cn_Glue_add : Cn 2 run_Glue_add := cn_run
theorem ok_Glue_add (T : Txt K mg) : FnOk P w K mg base (L2.CX P w) 3 T.a_Glue_add T.fd_Glue_add P_Glue_add (spF ⟨P, w⟩ ⟨K, mg⟩ 2 run_Glue_add) :=
  dfn_ok T.F_Glue_add sc_Glue_add rfl rfl fun cdv A outer s H E hr tk => ds_cons (ds_if (dt_not (dt_tru (d_isi (.own _) T.it_Glue T.io_Glue rfl T.z_isinstance (by decide +kernel) (d_v 1) (pe_glob rfl T.g_Glue rfl)))) (ds_last (ds_no)) (ds_nil)) (
    ds_last (ds_ret (d_make T.c_Glue T.mk_Glue (ok_Glue_init T) cn_run (hr.mono (by decide)) rfl T.g_Glue T.b_Glue_init .nil (fun H ι => by simp [RVs]) (da_cons (d_op o_add od_add (d_fld (d_v 0) T.f_width) (d_fld (d_v 1) T.f_width)) (da_cons (d_op o_add od_add (d_fld (d_v 0) T.f_stretch) (d_fld (d_v 1) T.f_stretch)) (da_cons (d_op o_add od_add (d_fld (d_v 0) T.f_shrink) (d_fld (d_v 1) T.f_shrink)) (da_nil)))))))
def lp_Glue_sub_0 : MS := mRet (mMake "Glue" run_Glue_init (mA0 (mCons (mOp dSub (mFld ["Glue", "Measure"] "width" (mVar 0)) (mFld ["Glue", "Measure"] "width" (mVar 1))) (mCons (mOp dSub (mFld ["Glue"] "stretch" (mVar 0)) (mFld ["Glue"] "stretch" (mVar 1))) (mCons (mOp dSub (mFld ["Glue"] "shrink" (mVar 0)) (mFld ["Glue"] "shrink" (mVar 1))) (mNil))))))
def m_Glue_sub : MS := mSeq (mIfS (mNot (mTru (mIsi [("int", false), ("bool", false)] [("Glue", true)] (mVar 1)))) (mNo) (mNext)) (
    (lp_Glue_sub_0))
def run_Glue_sub : Rn := run 2 2 m_Glue_sub
theorem ent_Glue_sub {x0 x1 : D} {hp : DH} : run_Glue_sub [x0, x1] hp = fin (m_Glue_sub [some x0, some x1] hp) := (rfl)
theorem cn_Glue_sub : Cn 2 run_Glue_sub := cn_run
theorem ok_Glue_sub (T : Txt K mg) : FnOk P w K mg base (L2.CX P w) 3 T.a_Glue_sub T.fd_Glue_sub P_Glue_sub (spF ⟨P, w⟩ ⟨K, mg⟩ 2 run_Glue_sub) :=
  dfn_ok T.F_Glue_sub sc_Glue_sub rfl rfl fun cdv A outer s H E hr tk => ds_cons (ds_if (dt_not (dt_tru (d_isi (.own _) T.it_Glue T.io_Glue rfl T.z_isinstance (by decide +kernel) (d_v 1) (pe_glob rfl T.g_Glue rfl)))) (ds_last (ds_no)) (ds_nil)) (
    ds_last (ds_ret (d_make T.c_Glue T.mk_Glue (ok_Glue_init T) cn_run (hr.mono (by decide)) rfl T.g_Glue T.b_Glue_init .nil (fun H ι => by simp [RVs]) (da_cons (d_op op_sub od_sub (d_fld (d_v 0) T.f_width) (d_fld (d_v 1) T.f_width)) (da_cons (d_op op_sub od_sub (d_fld (d_v 0) T.f_stretch) (d_fld (d_v 1) T.f_stretch)) (da_cons (d_op op_sub od_sub (d_fld (d_v 0) T.f_shrink) (d_fld (d_v 1) T.f_shrink)) (da_nil)))))))
def lp_extra_of_0 : MS := mSeq (mIfS (mAnd (mTest (mOp (dEq) (mFld ["Measure"] "align" (mVar 4)) (mC (.str "both")))) (mAnd (mTest (mOp (dGt) (mVar 0) (mC (.int 0)))) (mNot (mTru (mVar 3))))) (mRet (mOp dDiv (mOp dMul (mVar 0) (mFld ["Glue"] "stretch" (mVar 2))) (mFld ["Glue"] "stretch" (mVar 1)))) (mNext)) (
    mRet (mC (.int 0)))
def m_extra_of : MS := mSeq (mIfS (mAnd (mTest (mOp (dEq) (mFld ["Measure"] "align" (mVar 4)) (mC (.str "both")))) (mTest (mOp (dLt) (mVar 0) (mC (.int 0))))) (mRet (mUn dNeg (mOp dDiv (mOp dMul (mUn dNeg (mVar 0)) (mFld ["Glue"] "shrink" (mVar 2))) (mFld ["Glue"] "shrink" (mVar 1))))) (mNext)) (
    (lp_extra_of_0))
def run_extra_of : Rn := run 5 5 m_extra_of
theorem ent_extra_of {x0 x1 x2 x3 x4 : D} {hp : DH} : run_extra_of [x0, x1, x2, x3, x4] hp = fin (m_extra_of [some x0, some x1, some x2, some x3, some x4] hp) := (rfl)
theorem cn_extra_of : Cn 5 run_extra_of := cn_run
theorem ok_extra_of (T : Txt K mg) : FnOk P w K mg base (L2.CX P w) 1 T.a_extra_of T.fd_extra_of P_extra_of (spF ⟨P, w⟩ ⟨K, mg⟩ 5 run_extra_of) :=
  dfn_ok T.F_extra_of sc_extra_of rfl rfl fun cdv A outer s H E hr tk => ds_cons (ds_if (d_wt (dw_and (d_cmpT (o_eq hr.units) od_eq (d_fld (d_v 4) T.f_align) (d_str) (nomark _)) (dw_and1 (d_cmpT (o_lt hr.units) od_cmp (d_v 0) (d_int) (nomark _))))) (ds_last (ds_ret (d_un un_neg ud_neg (d_op op_fdivW od_div (d_op o_mulI od_mul (d_un un_neg ud_neg (d_v 0)) (d_fld (d_v 2) T.f_shrink)) (d_fld (d_v 1) T.f_shrink))))) (ds_nil)) (
    ds_cons (ds_if (d_wt (dw_and (d_cmpT (o_eq hr.units) od_eq (d_fld (d_v 4) T.f_align) (d_str) (nomark _)) (dw_and (d_cmpT (o_gt hr.units) od_cmp (d_v 0) (d_int) (nomark _)) (dw_and1 (dt_not (dt_tru (d_v 3))))))) (ds_last (ds_ret (d_op op_fdivW od_div (d_op o_mulI od_mul (d_v 0) (d_fld (d_v 2) T.f_stretch)) (d_fld (d_v 1) T.f_stretch)))) (ds_nil)) (
    ds_last (ds_ret (d_int))))
def lp_joint_glue_0 : MS := mRet (mMake "Glue" run_Glue_init (mA0 (mCons (mUn dNeg (mOp dIx (mVar 0) (mC (.int 2)))) (mCons (mC (.int 0)) (mCons (mC (.int 0)) (mNil))))))
def m_joint_glue : MS := mSeq (mIfS (mTest (mOp (dEq) (mOp dIx (mVar 0) (mC (.int 0))) (mC (.str "gap")))) (mRet (mMake "Glue" run_Glue_init (mA0 (mCons (mOp dIx (mVar 0) (mC (.int 1))) (mCons (mOp dIx (mVar 0) (mC (.int 2))) (mCons (mOp dIx (mVar 0) (mC (.int 3))) (mNil))))))) (mNext)) (
    (lp_joint_glue_0))
def run_joint_glue : Rn := run 1 1 m_joint_glue
theorem ent_joint_glue {x0 : D} {hp : DH} : run_joint_glue [x0] hp = fin (m_joint_glue [some x0] hp) := (rfl)
theorem cn_joint_glue : Cn 1 run_joint_glue := cn_run
theorem ok_joint_glue (T : Txt K mg) : FnOk P w K mg base (L2.CX P w) 3 T.a_joint_glue T.fd_joint_glue P_joint_glue (spF ⟨P, w⟩ ⟨K, mg⟩ 1 run_joint_glue) :=
  dfn_ok T.F_joint_glue sc_joint_glue rfl rfl fun cdv A outer s H E hr tk => ds_cons (ds_if (d_cmpT (o_eq hr.units) od_eq (d_ix (d_v 0) (d_int) (fun _ _ => rfl)) (d_str) (nomark _)) (ds_last (ds_ret (d_make T.c_Glue T.mk_Glue (ok_Glue_init T) cn_run (hr.mono (by decide)) rfl T.g_Glue T.b_Glue_init .nil (fun H ι => by simp [RVs]) (da_cons (d_ix (d_v 0) (d_int) (fun _ _ => rfl)) (da_cons (d_ix (d_v 0) (d_int) (fun _ _ => rfl)) (da_cons (d_ix (d_v 0) (d_int) (fun _ _ => rfl)) (da_nil))))))) (ds_nil)) (
    ds_last (ds_ret (d_make T.c_Glue T.mk_Glue (ok_Glue_init T) cn_run (hr.mono (by decide)) rfl T.g_Glue T.b_Glue_init .nil (fun H ι => by simp [RVs]) (da_cons (d_un un_neg ud_neg (d_ix (d_v 0) (d_int) (fun _ _ => rfl))) (da_cons (d_int) (da_cons (d_int) (da_nil)))))))
def m_extended_glue : MS := mSeq (mAsg (mVar 0) (gTp [3, 4])) (
    mRet (mOp (dOwn "Glue" run_Glue_add dAdd) (mOp (dOwn "Glue" run_Glue_add dAdd) (mVar 1) (mCall run_joint_glue (mCons (mOp dIx (mVar 4) (mOp (dOwn "Glue" run_Glue_sub dSub) (mVar 2) (mC (.int 1)))) (mNil)))) (mMake "Glue" run_Glue_init (mA0 (mCons (mOp dIx (mVar 3) (mVar 2)) (mCons (mC (.int 0)) (mCons (mC (.int 0)) (mNil))))))))
def run_extended_glue : Rn := run 3 5 m_extended_glue
theorem ent_extended_glue {x0 x1 x2 : D} {hp : DH} : run_extended_glue [x0, x1, x2] hp = fin (m_extended_glue [some x0, some x1, some x2, none, none] hp) := (rfl)
theorem cn_extended_glue : Cn 3 run_extended_glue := cn_run
theorem ok_extended_glue (T : Txt K mg) : FnOk P w K mg base (L2.CX P w) 4 T.a_extended_glue T.fd_extended_glue P_extended_glue (spF ⟨P, w⟩ ⟨K, mg⟩ 3 run_extended_glue) :=
  dfn_ok T.F_extended_glue sc_extended_glue rfl rfl fun cdv A outer s H E hr tk => ds_cons (ds_asg (d_v 0) (GR.dg (pg_tup rfl (pgs_cons (pg_name (i := 3) sc_extended_glue.nd rfl (Or.inl rfl)) (pgs_cons (pg_name (i := 4) sc_extended_glue.nd rfl (Or.inl rfl)) (pgs_nil)))) (gr_t [3, 4]))) (
    ds_last (ds_ret (d_op (OpR.or (o_own T.oc_Glue_add (ok_Glue_add T) (hr.mono (by decide)) T.b_Glue_add) o_add) (od_own cn_run T.c_Glue od_add) (d_op (OpR.or (o_own T.oc_Glue_add (ok_Glue_add T) (hr.mono (by decide)) T.b_Glue_add) o_add) (od_own cn_run T.c_Glue od_add) (d_v 1) (d_call (ok_joint_glue T) cn_joint_glue (hr.mono (by decide)) rfl T.g_joint_glue T.F_joint_glue.kp T.b_joint_glue tk (da_cons (d_ix (d_v 4) (d_op (OpR.or (o_own T.oc_Glue_sub (ok_Glue_sub T) (hr.mono (by decide)) T.b_Glue_sub) op_sub) (od_own cn_run T.c_Glue od_sub) (d_v 2) (d_int)) (fun _ _ => rfl)) (da_nil)))) (d_make T.c_Glue T.mk_Glue (ok_Glue_init T) cn_run (hr.mono (by decide)) rfl T.g_Glue T.b_Glue_init .nil (fun H ι => by simp [RVs]) (da_cons (d_ix (d_v 3) (d_v 2) (fun _ _ => rfl)) (da_cons (d_int) (da_cons (d_int) (da_nil))))))))
def m_ends_at_hyphen : MS := mSeq (mAsg (mVar 0) (gTp [2, 3])) (
    mRet (mAndV (mOp (dLt) (mVar 1) (mCB fLen (mCons (mVar 2) (mNil)))) (mOp (dEq) (mOp dIx (mOp dIx (mVar 3) (mOp dSub (mVar 1) (mC (.int 1)))) (mC (.int 0))) (mC (.str "hyphen")))))
def run_ends_at_hyphen : Rn := run 2 4 m_ends_at_hyphen
theorem ent_ends_at_hyphen {x0 x1 : D} {hp : DH} : run_ends_at_hyphen [x0, x1] hp = fin (m_ends_at_hyphen [some x0, some x1, none, none] hp) := (rfl)
theorem cn_ends_at_hyphen : Cn 2 run_ends_at_hyphen := cn_run
theorem ok_ends_at_hyphen (T : Txt K mg) : FnOk P w K mg base (L2.CX P w) 1 T.a_ends_at_hyphen T.fd_ends_at_hyphen P_ends_at_hyphen (spF ⟨P, w⟩ ⟨K, mg⟩ 2 run_ends_at_hyphen) :=
  dfn_ok T.F_ends_at_hyphen sc_ends_at_hyphen rfl rfl fun cdv A outer s H E hr tk => ds_cons (ds_asg (d_v 0) (GR.dg (pg_tup rfl (pgs_cons (pg_name (i := 2) sc_ends_at_hyphen.nd rfl (Or.inl rfl)) (pgs_cons (pg_name (i := 3) sc_ends_at_hyphen.nd rfl (Or.inl rfl)) (pgs_nil)))) (gr_t [2, 3]))) (
    ds_last (ds_ret (d_and (d_cmp (o_lt hr.units) od_cmp (d_v 1) (d_cb call_len cd_len rfl T.z_len (by decide +kernel) (da_cons (d_v 2) (da_nil))) (nomark _)) (d_one (d_cmp (o_eq hr.units) od_eq (d_ix (d_ix (d_v 3) (d_op op_sub od_sub (d_v 1) (d_int)) (fun _ _ => rfl)) (d_int) (fun _ _ => rfl)) (d_str) (nomark _))))))
def m_finished_glue : MS := mSeq (mIfS (mTru (mCall run_ends_at_hyphen (mCons (mVar 0) (mCons (mVar 2) (mNil))))) (mRet (mOp (dOwn "Glue" run_Glue_add dAdd) (mVar 1) (mMake "Glue" run_Glue_init (mA0 (mCons (mOp dIx (mOp dIx (mOp dIx (mVar 0) (mC (.int 1))) (mOp (dOwn "Glue" run_Glue_sub dSub) (mVar 2) (mC (.int 1)))) (mC (.int 1))) (mCons (mC (.int 0)) (mCons (mC (.int 0)) (mNil)))))))) (mNext)) (
    mRet (mVar 1))
def run_finished_glue : Rn := run 3 3 m_finished_glue
theorem ent_finished_glue {x0 x1 x2 : D} {hp : DH} : run_finished_glue [x0, x1, x2] hp = fin (m_finished_glue [some x0, some x1, some x2] hp) := (rfl)
theorem cn_finished_glue : Cn 3 run_finished_glue := cn_run
theorem ok_finished_glue (T : Txt K mg) : FnOk P w K mg base (L2.CX P w) 4 T.a_finished_glue T.fd_finished_glue P_finished_glue (spF ⟨P, w⟩ ⟨K, mg⟩ 3 run_finished_glue) :=
  dfn_ok T.F_finished_glue sc_finished_glue rfl rfl fun cdv A outer s H E hr tk => ds_cons (ds_if (dt_tru (d_call (ok_ends_at_hyphen T) cn_ends_at_hyphen (hr.mono (by decide)) rfl T.g_ends_at_hyphen T.F_ends_at_hyphen.kp T.b_ends_at_hyphen tk (da_cons (d_v 0) (da_cons (d_v 2) (da_nil))))) (ds_last (ds_ret (d_op (OpR.or (o_own T.oc_Glue_add (ok_Glue_add T) (hr.mono (by decide)) T.b_Glue_add) o_add) (od_own cn_run T.c_Glue od_add) (d_v 1) (d_make T.c_Glue T.mk_Glue (ok_Glue_init T) cn_run (hr.mono (by decide)) rfl T.g_Glue T.b_Glue_init .nil (fun H ι => by simp [RVs]) (da_cons (d_ix (d_ix (d_ix (d_v 0) (d_int) (fun _ _ => rfl)) (d_op (OpR.or (o_own T.oc_Glue_sub (ok_Glue_sub T) (hr.mono (by decide)) T.b_Glue_sub) op_sub) (od_own cn_run T.c_Glue od_sub) (d_v 2) (d_int)) (fun _ _ => rfl)) (d_int) (fun _ _ => rfl)) (da_cons (d_int) (da_cons (d_int) (da_nil)))))))) (ds_nil)) (
    ds_last (ds_ret (d_v 1)))
def lp_line_glue_0 : MS := mSet 3 (mCall run_extended_glue (mCons (mVar 0) (mCons (mVar 3) (mCons (mVar 4) (mNil)))))
def lp_line_glue_1 : MS := mRet (mCall run_finished_glue (mCons (mVar 0) (mCons (mVar 3) (mCons (mVar 2) (mNil)))))
def m_line_glue : MS := mSeq (mSet 3 (mMake "Glue" run_Glue_init (mA0 (mCons (mOp dIx (mOp dIx (mVar 0) (mC (.int 0))) (mVar 1)) (mCons (mC (.int 0)) (mCons (mC (.int 0)) (mNil))))))) (
    mSeq (mFor (mRng2 (mCons (mOp (dOwn "Glue" run_Glue_add dAdd) (mVar 1) (mC (.int 1))) (mCons (mVar 2) (mNil)))) (gN 4) ((lp_line_glue_0))) (
    (lp_line_glue_1)))
def run_line_glue : Rn := run 3 5 m_line_glue
theorem ent_line_glue {x0 x1 x2 : D} {hp : DH} : run_line_glue [x0, x1, x2] hp = fin (m_line_glue [some x0, some x1, some x2, none, none] hp) := (rfl)
theorem cn_line_glue : Cn 3 run_line_glue := cn_run
theorem ok_line_glue (T : Txt K mg) : FnOk P w K mg base (L2.CX P w) 5 T.a_line_glue T.fd_line_glue P_line_glue (spF ⟨P, w⟩ ⟨K, mg⟩ 3 run_line_glue) :=
  dfn_ok T.F_line_glue sc_line_glue rfl rfl fun cdv A outer s H E hr tk => ds_cons (ds_set (i := 3) sc_line_glue.nd rfl (Or.inl rfl) (d_make T.c_Glue T.mk_Glue (ok_Glue_init T) cn_run (hr.mono (by decide)) rfl T.g_Glue T.b_Glue_init .nil (fun H ι => by simp [RVs]) (da_cons (d_ix (d_ix (d_v 0) (d_int) (fun _ _ => rfl)) (d_v 1) (fun _ _ => rfl)) (da_cons (d_int) (da_cons (d_int) (da_nil)))))) (
    ds_cons (ds_for (passes_of rfl) rfl (di_range2 rfl T.z_range (da_cons (d_op (OpR.or (o_own T.oc_Glue_add (ok_Glue_add T) (hr.mono (by decide)) T.b_Glue_add) o_add) (od_own cn_run T.c_Glue od_add) (d_v 1) (d_int)) (da_cons (d_v 2) (da_nil)))) (GR.dg (pg_name (i := 4) sc_line_glue.nd rfl (Or.inl rfl)) (gr_n 4)) (ds_last (ds_set (i := 3) sc_line_glue.nd rfl (Or.inl rfl) (d_call (ok_extended_glue T) cn_extended_glue (hr.mono (by decide)) rfl T.g_extended_glue T.F_extended_glue.kp T.b_extended_glue tk (da_cons (d_v 0) (da_cons (d_v 3) (da_cons (d_v 4) (da_nil)))))))) (
    ds_last (ds_ret (d_call (ok_finished_glue T) cn_finished_glue (hr.mono (by decide)) rfl T.g_finished_glue T.F_finished_glue.kp T.b_finished_glue tk (da_cons (d_v 0) (da_cons (d_v 3) (da_cons (d_v 2) (da_nil))))))))
def lp_room_of_0 : MS := mRet (mFld ["Glue", "Measure"] "width" (mVar 1))
def m_room_of : MS := mSeq (mIfS (mTest (mOp (dEq) (mVar 0) (mC (.int 0)))) (mRet (mOp dSub (mFld ["Glue", "Measure"] "width" (mVar 1)) (mFld ["Measure"] "indent" (mVar 1)))) (mNext)) (
    (lp_room_of_0))
def run_room_of : Rn := run 2 2 m_room_of
theorem ent_room_of {x0 x1 : D} {hp : DH} : run_room_of [x0, x1] hp = fin (m_room_of [some x0, some x1] hp) := (rfl)
theorem cn_room_of : Cn 2 run_room_of := cn_run
theorem ok_room_of (T : Txt K mg) : FnOk P w K mg base (L2.CX P w) 1 T.a_room_of T.fd_room_of P_room_of (spF ⟨P, w⟩ ⟨K, mg⟩ 2 run_room_of) :=
  dfn_ok T.F_room_of sc_room_of rfl rfl fun cdv A outer s H E hr tk => ds_cons (ds_if (d_cmpT (o_eq hr.units) od_eq (d_v 0) (d_int) (nomark _)) (ds_last (ds_ret (d_op op_sub od_sub (d_fld (d_v 1) T.f_width) (d_fld (d_v 1) T.f_indent)))) (ds_nil)) (
    ds_last (ds_ret (d_fld (d_v 1) T.f_width)))
def lp_box_places_0 : MS := mExpr (mBM isLst fAppend (mVar 11) (mCons (mOp (dOwn "Glue" run_Glue_add dAdd) (mVar 9) (mCall run_extra_of (mCons (mVar 7) (mCons (mVar 6) (mCons (mVar 10) (mCons (mVar 8) (mCons (mVar 3) (mNil)))))))) (mNil)))
def lp_box_places_1 : MS := mSeq (mIfS (mTest (mOp (dGt) (mVar 12) (mVar 1))) (mSeq (mSet 13 (mCall run_joint_glue (mCons (mOp dIx (mVar 5) (mOp (dOwn "Glue" run_Glue_sub dSub) (mVar 12) (mC (.int 1)))) (mNil)))) (
    mSeq (mSet 9 (mOp (dOwn "Glue" run_Glue_add dAdd) (mOp (dOwn "Glue" run_Glue_add dAdd) (mVar 9) (mOp dIx (mVar 4) (mOp (dOwn "Glue" run_Glue_sub dSub) (mVar 12) (mC (.int 1))))) (mFld ["Glue", "Measure"] "width" (mVar 13)))) (
    mSet 10 (mOp (dOwn "Glue" run_Glue_add dAdd) (mVar 10) (mVar 13))))) (mNext)) (
    (lp_box_places_0))
def m_box_places : MS := mSeq (mAsg (mVar 0) (gTp [4, 5])) (
    mSeq (mSet 6 (mCall run_line_glue (mCons (mVar 0) (mCons (mVar 1) (mCons (mVar 2) (mNil)))))) (
    mSeq (mSet 7 (mOp (dOwn "Glue" run_Glue_sub dSub) (mCall run_room_of (mCons (mVar 1) (mCons (mVar 3) (mNil)))) (mFld ["Glue", "Measure"] "width" (mVar 6)))) (
    mSeq (mSet 8 (mOp (dEq) (mVar 2) (mCB fLen (mCons (mVar 4) (mNil))))) (
    mSeq (mSet 9 (mIf (mTest (mOp (dEq) (mVar 1) (mC (.int 0)))) (mFld ["Measure"] "indent" (mVar 3)) (mC (.int 0)))) (
    mSeq (mSet 10 (mMake "Glue" run_Glue_init (mA0 (mCons (mC (.int 0)) (mCons (mC (.int 0)) (mCons (mC (.int 0)) (mNil))))))) (
    mSeq (mSet 11 (mLst (mNil))) (
    mSeq (mFor (mRng2 (mCons (mVar 1) (mCons (mVar 2) (mNil)))) (gN 12) ((lp_box_places_1))) (
    mRet (mVar 11)))))))))
def run_box_places : Rn := run 4 14 m_box_places
theorem ent_box_places {x0 x1 x2 x3 : D} {hp : DH} : run_box_places [x0, x1, x2, x3] hp = fin (m_box_places [some x0, some x1, some x2, some x3, none, none, none, none, none, none, none, none, none, none] hp) := (rfl)
theorem cn_box_places : Cn 4 run_box_places := cn_run
theorem ok_box_places (T : Txt K mg) : FnOk P w K mg base (L2.CX P w) 6 T.a_box_places T.fd_box_places P_box_places (spF ⟨P, w⟩ ⟨K, mg⟩ 4 run_box_places) :=
  dfn_ok T.F_box_places sc_box_places rfl rfl fun cdv A outer s H E hr tk => ds_cons (ds_asg (d_v 0) (GR.dg (pg_tup rfl (pgs_cons (pg_name (i := 4) sc_box_places.nd rfl (Or.inl rfl)) (pgs_cons (pg_name (i := 5) sc_box_places.nd rfl (Or.inl rfl)) (pgs_nil)))) (gr_t [4, 5]))) (
    ds_cons (ds_set (i := 6) sc_box_places.nd rfl (Or.inl rfl) (d_call (ok_line_glue T) cn_line_glue (hr.mono (by decide)) rfl T.g_line_glue T.F_line_glue.kp T.b_line_glue tk (da_cons (d_v 0) (da_cons (d_v 1) (da_cons (d_v 2) (da_nil)))))) (
    ds_cons (ds_set (i := 7) sc_box_places.nd rfl (Or.inl rfl) (d_op (OpR.or (o_own T.oc_Glue_sub (ok_Glue_sub T) (hr.mono (by decide)) T.b_Glue_sub) op_sub) (od_own cn_run T.c_Glue od_sub) (d_call (ok_room_of T) cn_room_of (hr.mono (by decide)) rfl T.g_room_of T.F_room_of.kp T.b_room_of tk (da_cons (d_v 1) (da_cons (d_v 3) (da_nil)))) (d_fld (d_v 6) T.f_width))) (
    ds_cons (ds_set (i := 8) sc_box_places.nd rfl (Or.inl rfl) (d_cmp (o_eq hr.units) od_eq (d_v 2) (d_cb call_len cd_len rfl T.z_len (by decide +kernel) (da_cons (d_v 4) (da_nil))) (nomark _))) (
    ds_cons (ds_set (i := 9) sc_box_places.nd rfl (Or.inl rfl) (d_if (d_cmpT (o_eq hr.units) od_eq (d_v 1) (d_int) (nomark _)) (d_fld (d_v 3) T.f_indent) (d_int))) (
    ds_cons (ds_set (i := 10) sc_box_places.nd rfl (Or.inl rfl) (d_make T.c_Glue T.mk_Glue (ok_Glue_init T) cn_run (hr.mono (by decide)) rfl T.g_Glue T.b_Glue_init .nil (fun H ι => by simp [RVs]) (da_cons (d_int) (da_cons (d_int) (da_cons (d_int) (da_nil)))))) (
    ds_cons (ds_set (i := 11) sc_box_places.nd rfl (Or.inl rfl) (d_lst (da_nil))) (
    ds_cons (ds_for (passes_of rfl) rfl (di_range2 rfl T.z_range (da_cons (d_v 1) (da_cons (d_v 2) (da_nil)))) (GR.dg (pg_name (i := 12) sc_box_places.nd rfl (Or.inl rfl)) (gr_n 12)) (ds_cons (ds_if (d_cmpT (o_gt hr.units) od_cmp (d_v 12) (d_v 1) (nomark _)) (ds_cons (ds_set (i := 13) sc_box_places.nd rfl (Or.inl rfl) (d_call (ok_joint_glue T) cn_joint_glue (hr.mono (by decide)) rfl T.g_joint_glue T.F_joint_glue.kp T.b_joint_glue tk (da_cons (d_ix (d_v 5) (d_op (OpR.or (o_own T.oc_Glue_sub (ok_Glue_sub T) (hr.mono (by decide)) T.b_Glue_sub) op_sub) (od_own cn_run T.c_Glue od_sub) (d_v 12) (d_int)) (fun _ _ => rfl)) (da_nil)))) (
    ds_cons (ds_set (i := 9) sc_box_places.nd rfl (Or.inl rfl) (d_op (OpR.or (o_own T.oc_Glue_add (ok_Glue_add T) (hr.mono (by decide)) T.b_Glue_add) o_add) (od_own cn_run T.c_Glue od_add) (d_op (OpR.or (o_own T.oc_Glue_add (ok_Glue_add T) (hr.mono (by decide)) T.b_Glue_add) o_add) (od_own cn_run T.c_Glue od_add) (d_v 9) (d_ix (d_v 4) (d_op (OpR.or (o_own T.oc_Glue_sub (ok_Glue_sub T) (hr.mono (by decide)) T.b_Glue_sub) op_sub) (od_own cn_run T.c_Glue od_sub) (d_v 12) (d_int)) (fun _ _ => rfl))) (d_fld (d_v 13) T.f_width))) (
    ds_last (ds_set (i := 10) sc_box_places.nd rfl (Or.inl rfl) (d_op (OpR.or (o_own T.oc_Glue_add (ok_Glue_add T) (hr.mono (by decide)) T.b_Glue_add) o_add) (od_own cn_run T.c_Glue od_add) (d_v 10) (d_v 13)))))) (ds_nil)) (
    ds_last (ds_expr (d_bm (id := "list.append") ty_lst md_append (pe_bm PySem.F.plainAttrs_list PySem.F.slot_list_append PySem.F.type_list_append mt_append (d_v 11) (da_cons (d_op (OpR.or (o_own T.oc_Glue_add (ok_Glue_add T) (hr.mono (by decide)) T.b_Glue_add) o_add) (od_own cn_run T.c_Glue od_add) (d_v 9) (d_call (ok_extra_of T) cn_extra_of (hr.mono (by decide)) rfl T.g_extra_of T.F_extra_of.kp T.b_extra_of tk (da_cons (d_v 7) (da_cons (d_v 6) (da_cons (d_v 10) (da_cons (d_v 8) (da_cons (d_v 3) (da_nil)))))))) (da_nil)))))))) (
    ds_last (ds_ret (d_v 11))))))))))
def lp_gap_spans_0 : MS := mIfS (mTest (mOp (dEq) (mOp dIx (mOp dIx (mVar 5) (mVar 8)) (mC (.int 0))) (mC (.str "gap")))) (mSeq (mSet 9 (mOp dAdd (mOp dIx (mVar 6) (mOp dSub (mVar 8) (mVar 1))) (mOp dIx (mVar 4) (mVar 8)))) (
    mExpr (mBM isLst fAppend (mVar 7) (mCons (mTup (mCons (mVar 9) (mCons (mOp dIx (mVar 6) (mOp dAdd (mOp dSub (mVar 8) (mVar 1)) (mC (.int 1)))) (mNil)))) (mNil))))) (mNext)
def m_gap_spans : MS := mSeq (mAsg (mVar 0) (gTp [4, 5])) (
    mSeq (mSet 6 (mCall run_box_places (mCons (mVar 0) (mCons (mVar 1) (mCons (mVar 2) (mCons (mVar 3) (mNil))))))) (
    mSeq (mSet 7 (mLst (mNil))) (
    mSeq (mFor (mRng2 (mCons (mVar 1) (mCons (mOp dSub (mVar 2) (mC (.int 1))) (mNil)))) (gN 8) ((lp_gap_spans_0))) (
    mRet (mVar 7)))))
def run_gap_spans : Rn := run 4 10 m_gap_spans
theorem ent_gap_spans {x0 x1 x2 x3 : D} {hp : DH} : run_gap_spans [x0, x1, x2, x3] hp = fin (m_gap_spans [some x0, some x1, some x2, some x3, none, none, none, none, none, none] hp) := (rfl)
theorem cn_gap_spans : Cn 4 run_gap_spans := cn_run
theorem ok_gap_spans (T : Txt K mg) : FnOk P w K mg base (L2.CX P w) 7 T.a_gap_spans T.fd_gap_spans P_gap_spans (spF ⟨P, w⟩ ⟨K, mg⟩ 4 run_gap_spans) :=
  dfn_ok T.F_gap_spans sc_gap_spans rfl rfl fun cdv A outer s H E hr tk => ds_cons (ds_asg (d_v 0) (GR.dg (pg_tup rfl (pgs_cons (pg_name (i := 4) sc_gap_spans.nd rfl (Or.inl rfl)) (pgs_cons (pg_name (i := 5) sc_gap_spans.nd rfl (Or.inl rfl)) (pgs_nil)))) (gr_t [4, 5]))) (
    ds_cons (ds_set (i := 6) sc_gap_spans.nd rfl (Or.inl rfl) (d_call (ok_box_places T) cn_box_places (hr.mono (by decide)) rfl T.g_box_places T.F_box_places.kp T.b_box_places tk (da_cons (d_v 0) (da_cons (d_v 1) (da_cons (d_v 2) (da_cons (d_v 3) (da_nil))))))) (
    ds_cons (ds_set (i := 7) sc_gap_spans.nd rfl (Or.inl rfl) (d_lst (da_nil))) (
    ds_cons (ds_for (passes_of rfl) rfl (di_range2 rfl T.z_range (da_cons (d_v 1) (da_cons (d_op op_sub od_sub (d_v 2) (d_int)) (da_nil)))) (GR.dg (pg_name (i := 8) sc_gap_spans.nd rfl (Or.inl rfl)) (gr_n 8)) (ds_last (ds_if (d_cmpT (o_eq hr.units) od_eq (d_ix (d_ix (d_v 5) (d_v 8) (fun _ _ => rfl)) (d_int) (fun _ _ => rfl)) (d_str) (nomark _)) (ds_cons (ds_set (i := 9) sc_gap_spans.nd rfl (Or.inl rfl) (d_op o_add od_add (d_ix (d_v 6) (d_op op_sub od_sub (d_v 8) (d_v 1)) (fun _ _ => rfl)) (d_ix (d_v 4) (d_v 8) (fun _ _ => rfl)))) (
    ds_last (ds_expr (d_bm (id := "list.append") ty_lst md_append (pe_bm PySem.F.plainAttrs_list PySem.F.slot_list_append PySem.F.type_list_append mt_append (d_v 7) (da_cons (d_tup (da_cons (d_v 9) (da_cons (d_ix (d_v 6) (d_op o_add od_add (d_op op_sub od_sub (d_v 8) (d_v 1)) (d_int)) (fun _ _ => rfl)) (da_nil)))) (da_nil))))))) (ds_nil)))) (
    ds_last (ds_ret (d_v 7))))))
def lp_price_with_count_0 : MS := mSeq (mIfS (mAnd (mTru (mCall run_ends_at_hyphen (mCons (mVar 0) (mCons (mVar 1) (mNil))))) (mTru (mCall run_ends_at_hyphen (mCons (mVar 0) (mCons (mVar 2) (mNil)))))) (mRet (mFld ["Measure"] "twin" (mVar 3))) (mNext)) (
    mRet (mC (.int 0)))
def m_price_with_count : MS := mSeq (mIfS (mAnd (mTest (mOp (dGt) (mFld ["Measure"] "river" (mVar 3)) (mC (.int 0)))) (mTest (mOp (dGe) (mVar 4) (mFld ["Measure"] "river" (mVar 3))))) (mRet (mC .non)) (mNext)) (
    (lp_price_with_count_0))
def run_price_with_count : Rn := run 5 5 m_price_with_count
theorem ent_price_with_count {x0 x1 x2 x3 x4 : D} {hp : DH} : run_price_with_count [x0, x1, x2, x3, x4] hp = fin (m_price_with_count [some x0, some x1, some x2, some x3, some x4] hp) := (rfl)
theorem cn_price_with_count : Cn 5 run_price_with_count := cn_run
theorem ok_price_with_count (T : Txt K mg) : FnOk P w K mg base (L2.CX P w) 2 T.a_price_with_count T.fd_price_with_count P_price_with_count (spF ⟨P, w⟩ ⟨K, mg⟩ 5 run_price_with_count) :=
  dfn_ok T.F_price_with_count sc_price_with_count rfl rfl fun cdv A outer s H E hr tk => ds_cons (ds_if (d_wt (dw_and (d_cmpT (o_gt hr.units) od_cmp (d_fld (d_v 3) T.f_river) (d_int) (nomark _)) (dw_and1 (d_cmpT (o_ge hr.units) od_cmp (d_v 4) (d_fld (d_v 3) T.f_river) (nomark _))))) (ds_last (ds_ret (d_non))) (ds_nil)) (
    ds_cons (ds_if (d_wt (dw_and (dt_tru (d_call (ok_ends_at_hyphen T) cn_ends_at_hyphen (hr.mono (by decide)) rfl T.g_ends_at_hyphen T.F_ends_at_hyphen.kp T.b_ends_at_hyphen tk (da_cons (d_v 0) (da_cons (d_v 1) (da_nil))))) (dw_and1 (dt_tru (d_call (ok_ends_at_hyphen T) cn_ends_at_hyphen (hr.mono (by decide)) rfl T.g_ends_at_hyphen T.F_ends_at_hyphen.kp T.b_ends_at_hyphen tk (da_cons (d_v 0) (da_cons (d_v 2) (da_nil)))))))) (ds_last (ds_ret (d_fld (d_v 3) T.f_twin))) (ds_nil)) (
    ds_last (ds_ret (d_int))))
def lp_pair_price_0 : MS := mRet (mCall run_price_with_count (mCons (mVar 0) (mCons (mVar 2) (mCons (mVar 3) (mCons (mVar 4) (mCons (mVar 5) (mNil)))))))
def m_pair_price : MS := mSeq (mSet 5 (mC (.int 0))) (
    mSeq (mIfS (mTest (mOp (dGt) (mFld ["Measure"] "river" (mVar 4)) (mC (.int 0)))) (mSeq (mSet 6 (mCall run_gap_spans (mCons (mVar 0) (mCons (mVar 1) (mCons (mVar 2) (mCons (mVar 4) (mNil))))))) (
    mSeq (mSet 7 (mCall run_gap_spans (mCons (mVar 0) (mCons (mVar 2) (mCons (mVar 3) (mCons (mVar 4) (mNil))))))) (
    mSet 5 (mCall run_count_overlapping (mCons (mVar 6) (mCons (mVar 7) (mNil))))))) (mNext)) (
    (lp_pair_price_0)))
def run_pair_price : Rn := run 5 8 m_pair_price
theorem ent_pair_price {x0 x1 x2 x3 x4 : D} {hp : DH} : run_pair_price [x0, x1, x2, x3, x4] hp = fin (m_pair_price [some x0, some x1, some x2, some x3, some x4, none, none, none] hp) := (rfl)
theorem cn_pair_price : Cn 5 run_pair_price := cn_run
theorem ok_pair_price (T : Txt K mg) : FnOk P w K mg base (L2.CX P w) 8 T.a_pair_price T.fd_pair_price P_pair_price (spF ⟨P, w⟩ ⟨K, mg⟩ 5 run_pair_price) :=
  dfn_ok T.F_pair_price sc_pair_price rfl rfl fun cdv A outer s H E hr tk => ds_cons (ds_set (i := 5) sc_pair_price.nd rfl (Or.inl rfl) (d_int)) (
    ds_cons (ds_if (d_cmpT (o_gt hr.units) od_cmp (d_fld (d_v 4) T.f_river) (d_int) (nomark _)) (ds_cons (ds_set (i := 6) sc_pair_price.nd rfl (Or.inl rfl) (d_call (ok_gap_spans T) cn_gap_spans (hr.mono (by decide)) rfl T.g_gap_spans T.F_gap_spans.kp T.b_gap_spans tk (da_cons (d_v 0) (da_cons (d_v 1) (da_cons (d_v 2) (da_cons (d_v 4) (da_nil))))))) (
    ds_cons (ds_set (i := 7) sc_pair_price.nd rfl (Or.inl rfl) (d_call (ok_gap_spans T) cn_gap_spans (hr.mono (by decide)) rfl T.g_gap_spans T.F_gap_spans.kp T.b_gap_spans tk (da_cons (d_v 0) (da_cons (d_v 2) (da_cons (d_v 3) (da_cons (d_v 4) (da_nil))))))) (
    ds_last (ds_set (i := 5) sc_pair_price.nd rfl (Or.inl rfl) (d_call (ok_count_overlapping T) cn_count_overlapping (hr.mono (by decide)) rfl T.g_count_overlapping T.F_count_overlapping.kp T.b_count_overlapping tk (da_cons (d_v 6) (da_cons (d_v 7) (da_nil)))))))) (ds_nil)) (
    ds_last (ds_ret (d_call (ok_price_with_count T) cn_price_with_count (hr.mono (by decide)) rfl T.g_price_with_count T.F_price_with_count.kp T.b_price_with_count tk (da_cons (d_v 0) (da_cons (d_v 2) (da_cons (d_v 3) (da_cons (d_v 4) (da_cons (d_v 5) (da_nil))))))))))
def lp__law_priced_0 : MS := mSeq (mSet 7 (mCall run_Measure_of (mCons (mOp dAdd (mSl (mVar 2) (mNoP) (mPart (mC (.int 5)))) (mTup (mCons (mVar 6) (mCons (mOp dIx (mVar 2) (mC (.int 6))) (mNil))))) (mNil)))) (
    mSeq (mSet 8 (mCall run_pair_price (mCons (mVar 0) (mCons (mOp dIx (mVar 1) (mC (.int 0))) (mCons (mOp dIx (mVar 1) (mC (.int 1))) (mCons (mOp dIx (mVar 1) (mC (.int 2))) (mCons (mVar 7) (mNil)))))))) (
    mIfS (mAnd (mTest (mOp (dGt) (mVar 6) (mC (.int 0)))) (mTest (mOp (dGe) (mVar 5) (mVar 6)))) (mIfS (mTest (mOp (dNotN) (mVar 8) (mC .non))) (mRet (mC (.bl false))) (mNext)) (mIfS (mOr (mNot (mTru (mCall run__law_is_integer (mCons (mVar 8) (mNil))))) (mTest (mOp (dNe) (mVar 8) (mCall run__law_twin (mCons (mVar 0) (mCons (mVar 1) (mCons (mVar 2) (mNil)))))))) (mRet (mC (.bl false))) (mNext))))
def m__law_priced : MS := mSeq (mSet 3 (mOp dIx (mCall run__law_spans (mCons (mVar 0) (mCons (mOp dIx (mVar 1) (mC (.int 0))) (mCons (mOp dIx (mVar 1) (mC (.int 1))) (mCons (mVar 2) (mNil)))))) (mC (.int 1)))) (
    mSeq (mSet 4 (mOp dIx (mCall run__law_spans (mCons (mVar 0) (mCons (mOp dIx (mVar 1) (mC (.int 1))) (mCons (mOp dIx (mVar 1) (mC (.int 2))) (mCons (mVar 2) (mNil)))))) (mC (.int 1)))) (
    mSeq (mSet 5 (mCall run__law_meet (mCons (mVar 3) (mCons (mVar 4) (mNil))))) (
    mSeq (mFor (mSrcA (mLst (mCons (mOp dIx (mVar 2) (mC (.int 5))) (mCons (mC (.int 0)) (mCons (mC (.int 1)) (mCons (mC (.int 2)) (mCons (mC (.int 3)) (mCons (mC (.int 4)) (mCons (mC (.int 5)) (mCons (mC (.int 6)) (mCons (mC (.int 7)) (mCons (mC (.int 8)) (mCons (mC (.int 9)) (mCons (mOp dIx (mVar 2) (mC (.int 5))) (mNil))))))))))))))) (gN 6) ((lp__law_priced_0))) (
    mRet (mC (.bl true))))))
def run__law_priced : Rn := run 3 9 m__law_priced
theorem ent__law_priced {x0 x1 x2 : D} {hp : DH} : run__law_priced [x0, x1, x2] hp = fin (m__law_priced [some x0, some x1, some x2, none, none, none, none, none, none] hp) := (rfl)
theorem cn__law_priced : Cn 3 run__law_priced := cn_run
theorem ok__law_priced (T : Txt K mg) : FnOk P w K mg base (L2.CX P w) 9 T.a__law_priced T.fd__law_priced P__law_priced (spF ⟨P, w⟩ ⟨K, mg⟩ 3 run__law_priced) :=
  dfn_ok T.F__law_priced sc__law_priced rfl rfl fun cdv A outer s H E hr tk => ds_cons (ds_set (i := 3) sc__law_priced.nd rfl (Or.inl rfl) (d_ix (d_call (ok__law_spans T) cn__law_spans (hr.mono (by decide)) rfl T.g__law_spans T.F__law_spans.kp T.b__law_spans tk (da_cons (d_v 0) (da_cons (d_ix (d_v 1) (d_int) (fun _ _ => rfl)) (da_cons (d_ix (d_v 1) (d_int) (fun _ _ => rfl)) (da_cons (d_v 2) (da_nil)))))) (d_int) (fun _ _ => rfl))) (
    ds_cons (ds_set (i := 4) sc__law_priced.nd rfl (Or.inl rfl) (d_ix (d_call (ok__law_spans T) cn__law_spans (hr.mono (by decide)) rfl T.g__law_spans T.F__law_spans.kp T.b__law_spans tk (da_cons (d_v 0) (da_cons (d_ix (d_v 1) (d_int) (fun _ _ => rfl)) (da_cons (d_ix (d_v 1) (d_int) (fun _ _ => rfl)) (da_cons (d_v 2) (da_nil)))))) (d_int) (fun _ _ => rfl))) (
    ds_cons (ds_set (i := 5) sc__law_priced.nd rfl (Or.inl rfl) (d_call (ok__law_meet T) cn__law_meet (hr.mono (by decide)) rfl T.g__law_meet T.F__law_meet.kp T.b__law_meet tk (da_cons (d_v 3) (da_cons (d_v 4) (da_nil))))) (
    ds_cons (ds_for (passes_of rfl) rfl (di_any (d_lst (da_cons (d_ix (d_v 2) (d_int) (fun _ _ => rfl)) (da_cons (d_int) (da_cons (d_int) (da_cons (d_int) (da_cons (d_int) (da_cons (d_int) (da_cons (d_int) (da_cons (d_int) (da_cons (d_int) (da_cons (d_int) (da_cons (d_int) (da_cons (d_ix (d_v 2) (d_int) (fun _ _ => rfl)) (da_nil))))))))))))))) (GR.dg (pg_name (i := 6) sc__law_priced.nd rfl (Or.inl rfl)) (gr_n 6)) (ds_cons (ds_set (i := 7) sc__law_priced.nd rfl (Or.inl rfl) (d_smeth (pe_glob rfl T.g_Measure rfl) T.sm_Measure_of (ok_Measure_of T) cn_run (hr.mono (by decide)) T.b_Measure_of tk (da_cons (d_op o_add od_add (d_sl s_slX (d_v 2) (do_none) (do_some (d_int))) (d_tup (da_cons (d_v 6) (da_cons (d_ix (d_v 2) (d_int) (fun _ _ => rfl)) (da_nil))))) (da_nil)))) (
    ds_cons (ds_set (i := 8) sc__law_priced.nd rfl (Or.inl rfl) (d_call (ok_pair_price T) cn_pair_price (hr.mono (by decide)) rfl T.g_pair_price T.F_pair_price.kp T.b_pair_price tk (da_cons (d_v 0) (da_cons (d_ix (d_v 1) (d_int) (fun _ _ => rfl)) (da_cons (d_ix (d_v 1) (d_int) (fun _ _ => rfl)) (da_cons (d_ix (d_v 1) (d_int) (fun _ _ => rfl)) (da_cons (d_v 7) (da_nil)))))))) (
    ds_last (ds_if (d_wt (dw_and (d_cmpT (o_gt hr.units) od_cmp (d_v 6) (d_int) (nomark _)) (dw_and1 (d_cmpT (o_ge hr.units) od_cmp (d_v 5) (d_v 6) (nomark _))))) (ds_last (ds_if (d_cmpT (op_notN) od_notN (d_v 8) (d_non) (nomark _)) (ds_last (ds_ret (d_bl))) (ds_nil))) (ds_last (ds_if (d_wt (dw_or (dt_not (dt_tru (d_call (ok__law_is_integer T) cn__law_is_integer (hr.mono (by decide)) rfl T.g__law_is_integer T.F__law_is_integer.kp T.b__law_is_integer tk (da_cons (d_v 8) (da_nil))))) (dw_or1 (d_cmpT (o_ne hr.units) od_ne (d_v 8) (d_call (ok__law_twin T) cn__law_twin (hr.mono (by decide)) rfl T.g__law_twin T.F__law_twin.kp T.b__law_twin tk (da_cons (d_v 0) (da_cons (d_v 1) (da_cons (d_v 2) (da_nil))))) (nomark _))))) (ds_last (ds_ret (d_bl))) (ds_nil)))))))) (
    ds_last (ds_ret (d_bl))))))
def lp__law_both_0 : MS := mRet (mCall run__law_priced (mCons (mVar 0) (mCons (mVar 1) (mCons (mVar 2) (mNil)))))
def lp__law_both_1 : MS := mSeq (mIfS (mNot (mTru (mCall run__law_possible (mCons (mVar 0) (mCons (mOp dIx (mVar 1) (mC (.int 1))) (mCons (mOp dIx (mVar 1) (mC (.int 2))) (mCons (mVar 2) (mNil)))))))) (mRet (mC (.bl true))) (mNext)) (
    (lp__law_both_0))
def m__law_both : MS := mSeq (mIfS (mNot (mTru (mCall run__law_possible (mCons (mVar 0) (mCons (mOp dIx (mVar 1) (mC (.int 0))) (mCons (mOp dIx (mVar 1) (mC (.int 1))) (mCons (mVar 2) (mNil)))))))) (mRet (mC (.bl true))) (mNext)) (
    (lp__law_both_1))
def run__law_both : Rn := run 3 3 m__law_both
theorem ent__law_both {x0 x1 x2 : D} {hp : DH} : run__law_both [x0, x1, x2] hp = fin (m__law_both [some x0, some x1, some x2] hp) := (rfl)
theorem cn__law_both : Cn 3 run__law_both := cn_run
theorem ok__law_both (T : Txt K mg) : FnOk P w K mg base (L2.CX P w) 10 T.a__law_both T.fd__law_both P__law_both (spF ⟨P, w⟩ ⟨K, mg⟩ 3 run__law_both) :=
  dfn_ok T.F__law_both sc__law_both rfl rfl fun cdv A outer s H E hr tk => ds_cons (ds_if (dt_not (dt_tru (d_call (ok__law_possible T) cn__law_possible (hr.mono (by decide)) rfl T.g__law_possible T.F__law_possible.kp T.b__law_possible tk (da_cons (d_v 0) (da_cons (d_ix (d_v 1) (d_int) (fun _ _ => rfl)) (da_cons (d_ix (d_v 1) (d_int) (fun _ _ => rfl)) (da_cons (d_v 2) (da_nil)))))))) (ds_last (ds_ret (d_bl))) (ds_nil)) (
    ds_cons (ds_if (dt_not (dt_tru (d_call (ok__law_possible T) cn__law_possible (hr.mono (by decide)) rfl T.g__law_possible T.F__law_possible.kp T.b__law_possible tk (da_cons (d_v 0) (da_cons (d_ix (d_v 1) (d_int) (fun _ _ => rfl)) (da_cons (d_ix (d_v 1) (d_int) (fun _ _ => rfl)) (da_cons (d_v 2) (da_nil)))))))) (ds_last (ds_ret (d_bl))) (ds_nil)) (
    ds_last (ds_ret (d_call (ok__law_priced T) cn__law_priced (hr.mono (by decide)) rfl T.g__law_priced T.F__law_priced.kp T.b__law_priced tk (da_cons (d_v 0) (da_cons (d_v 1) (da_cons (d_v 2) (da_nil))))))))
def m__law_hyphen : MS := mSeq (mSet 3 (mOp dAdd (mC (.int 1)) (mCall run__law_take (mCons (mVar 0) (mCons (mOp dIx (mLst (mCons (mC (.int 9)) (mCons (mC (.int 500)) (mNil)))) (mVar 2)) (mNil)))))) (
    mRet (mTup (mCons (mC (.str "hyphen")) (mCons (mVar 3) (mCons (mCall run__law_take (mCons (mVar 0) (mCons (mVar 1) (mNil)))) (mNil))))))
def run__law_hyphen : Rn := run 3 4 m__law_hyphen
theorem ent__law_hyphen {x0 x1 x2 : D} {hp : DH} : run__law_hyphen [x0, x1, x2] hp = fin (m__law_hyphen [some x0, some x1, some x2, none] hp) := (rfl)
theorem cn__law_hyphen : Cn 3 run__law_hyphen := cn_run
theorem ok__law_hyphen (T : Txt K mg) : FnOk P w K mg base (L2.CX P w) 2 T.a__law_hyphen T.fd__law_hyphen P__law_hyphen (spF ⟨P, w⟩ ⟨K, mg⟩ 3 run__law_hyphen) :=
  dfn_ok T.F__law_hyphen sc__law_hyphen rfl rfl fun cdv A outer s H E hr tk => ds_cons (ds_set (i := 3) sc__law_hyphen.nd rfl (Or.inl rfl) (d_op o_add od_add (d_int) (d_call (ok__law_take T) cn__law_take (hr.mono (by decide)) rfl T.g__law_take T.F__law_take.kp T.b__law_take tk (da_cons (d_v 0) (da_cons (d_ix (d_lst (da_cons (d_int) (da_cons (d_int) (da_nil)))) (d_v 2) (fun _ _ => rfl)) (da_nil)))))) (
    ds_last (ds_ret (d_tup (da_cons (d_str) (da_cons (d_v 3) (da_cons (d_call (ok__law_take T) cn__law_take (hr.mono (by decide)) rfl T.g__law_take T.F__law_take.kp T.b__law_take tk (da_cons (d_v 0) (da_cons (d_v 1) (da_nil)))) (da_nil)))))))
def lp__law_echo_0 : MS := mIfS (mOr (mTest (mOp (dEq) (mVar 7) (mC (.int 0)))) (mTest (mOp (dEq) (mVar 3) (mC (.int 1))))) (mSeq (mSet 8 (mOp dAdd (mC (.int 1)) (mCall run__law_take (mCons (mVar 0) (mCons (mOp dIx (mLst (mCons (mC (.int 12)) (mCons (mC (.int 500)) (mNil)))) (mVar 2)) (mNil)))))) (
    mSeq (mSet 9 (mCall run__law_take (mCons (mVar 0) (mCons (mOp dIx (mLst (mCons (mC (.int 12)) (mCons (mC (.int 501)) (mNil)))) (mVar 2)) (mNil))))) (
    mExpr (mBM isLst fAppend (mVar 6) (mCons (mTup (mCons (mC (.str "gap")) (mCons (mVar 8) (mCons (mVar 9) (mCons (mCall run__law_take (mCons (mVar 0) (mCons (mVar 8) (mNil)))) (mNil)))))) (mNil)))))) (mSeq (mSet 10 (mCB fMin (mCons (mCB fInt (mCons (mOp dIx (mVar 5) (mVar 7)) (mNil))) (mCons (mCB fInt (mCons (mOp dIx (mVar 5) (mOp dAdd (mVar 7) (mC (.int 1)))) (mNil))) (mNil))))) (
    mExpr (mBM isLst fAppend (mVar 6) (mCons (mCall run__law_joint (mCons (mVar 0) (mCons (mVar 10) (mCons (mVar 2) (mNil))))) (mNil)))))
def lp__law_echo_1 : MS := mSeq (mSet 11 (mOp dAdd (mC (.int 1)) (mCall run__law_take (mCons (mVar 0) (mCons (mC (.int 40)) (mNil)))))) (
    mSeq (mSet 12 (mCall run__law_hyphen (mCons (mVar 0) (mCons (mCB fMin (mCons (mCB fInt (mCons (mOp dIx (mVar 5) (mC (.int 0))) (mNil))) (mCons (mCB fInt (mCons (mOp dIx (mVar 5) (mUn dNeg (mC (.int 1)))) (mNil))) (mNil)))) (mCons (mVar 2) (mNil)))))) (
    mSeq (mSet 13 (mCall run__law_hyphen (mCons (mVar 0) (mCons (mCB fMin (mCons (mCB fInt (mCons (mVar 11) (mNil))) (mCons (mCB fInt (mCons (mOp dIx (mVar 5) (mUn dNeg (mC (.int 1)))) (mNil))) (mNil)))) (mCons (mVar 2) (mNil)))))) (
    mRet (mTup (mCons (mCB fTuple (mCons (mOp dAdd (mOp dAdd (mVar 5) (mVar 5)) (mLst (mCons (mVar 11) (mNil)))) (mNil))) (mCons (mCB fTuple (mCons (mOp dAdd (mOp dAdd (mOp dAdd (mVar 6) (mLst (mCons (mVar 12) (mNil)))) (mVar 6)) (mLst (mCons (mVar 13) (mNil)))) (mNil))) (mNil)))))))
def lp__law_echo_2 : MS := mSeq (mSet 2 (mCB fInt (mCons (mOp (dEq) (mCall run__law_take (mCons (mVar 0) (mCons (mC (.int 8)) (mNil)))) (mC (.int 7))) (mNil)))) (
    mSeq (mSet 3 (mCall run__law_take (mCons (mVar 0) (mCons (mC (.int 2)) (mNil))))) (
    mSeq (mSet 4 (mOp dIx (mLst (mCons (mC (.int 40)) (mCons (mOp dDiv (mOp dSub (mC (.int 9000)) (mOp dMul (mC (.int 500)) (mVar 1))) (mVar 1)) (mNil)))) (mVar 2))) (
    mSeq (mSet 5 (mComp (mRng1 (mCons (mVar 1) (mNil))) [7] (gN 7) (mYes) (mOp dAdd (mC (.int 1)) (mCall run__law_take (mCons (mVar 0) (mCons (mVar 4) (mNil))))))) (
    mSeq (mSet 6 (mLst (mNil))) (
    mSeq (mFor (mRng1 (mCons (mOp dSub (mVar 1) (mC (.int 1))) (mNil))) (gN 7) ((lp__law_echo_0))) (
    (lp__law_echo_1)))))))
def m__law_echo : MS := mSeq (mSet 1 (mOp dIx (mLst (mCons (mC (.int 2)) (mCons (mC (.int 3)) (mCons (mC (.int 4)) (mCons (mC (.int 10)) (mNil)))))) (mCall run__law_take (mCons (mVar 0) (mCons (mC (.int 4)) (mNil)))))) (
    mSeq (mIfS (mTest (mOp (dEq) (mVar 1) (mC (.int 10)))) (mSet 1 (mOp dAdd (mVar 1) (mCall run__law_take (mCons (mVar 0) (mCons (mC (.int 5)) (mNil)))))) (mNext)) (
    (lp__law_echo_2)))
def run__law_echo : Rn := run 1 14 m__law_echo
theorem ent__law_echo {x0 : D} {hp : DH} : run__law_echo [x0] hp = fin (m__law_echo [some x0, none, none, none, none, none, none, none, none, none, none, none, none, none] hp) := (rfl)
theorem cn__law_echo : Cn 1 run__law_echo := cn_run
theorem ok__law_echo (T : Txt K mg) : FnOk P w K mg base (L2.CX P w) 3 T.a__law_echo T.fd__law_echo P__law_echo (spF ⟨P, w⟩ ⟨K, mg⟩ 1 run__law_echo) :=
  dfn_ok T.F__law_echo sc__law_echo rfl rfl fun cdv A outer s H E hr tk => ds_cons (ds_set (i := 1) sc__law_echo.nd rfl (Or.inl rfl) (d_ix (d_lst (da_cons (d_int) (da_cons (d_int) (da_cons (d_int) (da_cons (d_int) (da_nil)))))) (d_call (ok__law_take T) cn__law_take (hr.mono (by decide)) rfl T.g__law_take T.F__law_take.kp T.b__law_take tk (da_cons (d_v 0) (da_cons (d_int) (da_nil)))) (fun _ _ => rfl))) (
    ds_cons (ds_if (d_cmpT (o_eq hr.units) od_eq (d_v 1) (d_int) (nomark _)) (ds_last (ds_set (i := 1) sc__law_echo.nd rfl (Or.inl rfl) (d_op o_add od_add (d_v 1) (d_call (ok__law_take T) cn__law_take (hr.mono (by decide)) rfl T.g__law_take T.F__law_take.kp T.b__law_take tk (da_cons (d_v 0) (da_cons (d_int) (da_nil))))))) (ds_nil)) (
    ds_cons (ds_set (i := 2) sc__law_echo.nd rfl (Or.inl rfl) (d_cty call_int1 cd_int rfl T.z_int (by decide +kernel) (da_cons (d_cmp (o_eq hr.units) od_eq (d_call (ok__law_take T) cn__law_take (hr.mono (by decide)) rfl T.g__law_take T.F__law_take.kp T.b__law_take tk (da_cons (d_v 0) (da_cons (d_int) (da_nil)))) (d_int) (nomark _)) (da_nil)))) (
    ds_cons (ds_set (i := 3) sc__law_echo.nd rfl (Or.inl rfl) (d_call (ok__law_take T) cn__law_take (hr.mono (by decide)) rfl T.g__law_take T.F__law_take.kp T.b__law_take tk (da_cons (d_v 0) (da_cons (d_int) (da_nil))))) (
    ds_cons (ds_set (i := 4) sc__law_echo.nd rfl (Or.inr rfl) (d_ix (d_lst (da_cons (d_int) (da_cons (d_op op_fdivW od_div (d_op op_sub od_sub (d_int) (d_op o_mulI od_mul (d_int) (d_v 1))) (d_v 1)) (da_nil)))) (d_v 2) (fun _ _ => rfl))) (
    ds_cons (ds_setLc (i := 5) (own := [("k", 7)]) rfl sc__law_echo.nd rfl rfl (sw_true rfl rfl rfl (by decide +kernel)) (di_range1 rfl T.z_range (da_cons (d_v 1) (da_nil))) (blkOk_by (own := [("k", 7)]) (N := N__law_echo) (sc := defScope s__law_echo) (by decide +kernel)) (gr_n 7) (keeps_n (by simp)) (fun _ _ _ _ _ => pg_name (i := 7) sc__law_echo.nd rfl (Or.inl rfl)) (fun _ _ _ _ _ => dts_nil) (fun _ _ _ _ _ => d_op o_add od_add (d_int) (d_call (ok__law_take T) cn__law_take (hr.mono (by decide)) rfl T.g__law_take T.F__law_take.kp T.b__law_take takes0 (da_cons (d_v 0) (da_cons (d_v 4) (da_nil)))))) (
    ds_cons (ds_set (i := 6) sc__law_echo.nd rfl (Or.inl rfl) (d_lst (da_nil))) (
    ds_cons (ds_for (passes_of rfl) rfl (di_range1 rfl T.z_range (da_cons (d_op op_sub od_sub (d_v 1) (d_int)) (da_nil))) (GR.dg (pg_name (i := 7) sc__law_echo.nd rfl (Or.inl rfl)) (gr_n 7)) (ds_last (ds_if (d_wt (dw_or (d_cmpT (o_eq hr.units) od_eq (d_v 7) (d_int) (nomark _)) (dw_or1 (d_cmpT (o_eq hr.units) od_eq (d_v 3) (d_int) (nomark _))))) (ds_cons (ds_set (i := 8) sc__law_echo.nd rfl (Or.inl rfl) (d_op o_add od_add (d_int) (d_call (ok__law_take T) cn__law_take (hr.mono (by decide)) rfl T.g__law_take T.F__law_take.kp T.b__law_take tk (da_cons (d_v 0) (da_cons (d_ix (d_lst (da_cons (d_int) (da_cons (d_int) (da_nil)))) (d_v 2) (fun _ _ => rfl)) (da_nil)))))) (
    ds_cons (ds_set (i := 9) sc__law_echo.nd rfl (Or.inl rfl) (d_call (ok__law_take T) cn__law_take (hr.mono (by decide)) rfl T.g__law_take T.F__law_take.kp T.b__law_take tk (da_cons (d_v 0) (da_cons (d_ix (d_lst (da_cons (d_int) (da_cons (d_int) (da_nil)))) (d_v 2) (fun _ _ => rfl)) (da_nil))))) (
    ds_last (ds_expr (d_bm (id := "list.append") ty_lst md_append (pe_bm PySem.F.plainAttrs_list PySem.F.slot_list_append PySem.F.type_list_append mt_append (d_v 6) (da_cons (d_tup (da_cons (d_str) (da_cons (d_v 8) (da_cons (d_v 9) (da_cons (d_call (ok__law_take T) cn__law_take (hr.mono (by decide)) rfl T.g__law_take T.F__law_take.kp T.b__law_take tk (da_cons (d_v 0) (da_cons (d_v 8) (da_nil)))) (da_nil)))))) (da_nil)))))))) (ds_cons (ds_set (i := 10) sc__law_echo.nd rfl (Or.inl rfl) (d_cb (c_min rfl hr.units) cd_min rfl T.z_min (by decide +kernel) (da_cons (d_cty call_int1 cd_int rfl T.z_int (by decide +kernel) (da_cons (d_ix (d_v 5) (d_v 7) (fun _ _ => rfl)) (da_nil))) (da_cons (d_cty call_int1 cd_int rfl T.z_int (by decide +kernel) (da_cons (d_ix (d_v 5) (d_op o_add od_add (d_v 7) (d_int)) (fun _ _ => rfl)) (da_nil))) (da_nil))))) (
    ds_last (ds_expr (d_bm (id := "list.append") ty_lst md_append (pe_bm PySem.F.plainAttrs_list PySem.F.slot_list_append PySem.F.type_list_append mt_append (d_v 6) (da_cons (d_call (ok__law_joint T) cn__law_joint (hr.mono (by decide)) rfl T.g__law_joint T.F__law_joint.kp T.b__law_joint tk (da_cons (d_v 0) (da_cons (d_v 10) (da_cons (d_v 2) (da_nil))))) (da_nil)))))))))) (
    ds_cons (ds_set (i := 11) sc__law_echo.nd rfl (Or.inl rfl) (d_op o_add od_add (d_int) (d_call (ok__law_take T) cn__law_take (hr.mono (by decide)) rfl T.g__law_take T.F__law_take.kp T.b__law_take tk (da_cons (d_v 0) (da_cons (d_int) (da_nil)))))) (
    ds_cons (ds_set (i := 12) sc__law_echo.nd rfl (Or.inl rfl) (d_call (ok__law_hyphen T) cn__law_hyphen (hr.mono (by decide)) rfl T.g__law_hyphen T.F__law_hyphen.kp T.b__law_hyphen tk (da_cons (d_v 0) (da_cons (d_cb (c_min rfl hr.units) cd_min rfl T.z_min (by decide +kernel) (da_cons (d_cty call_int1 cd_int rfl T.z_int (by decide +kernel) (da_cons (d_ix (d_v 5) (d_int) (fun _ _ => rfl)) (da_nil))) (da_cons (d_cty call_int1 cd_int rfl T.z_int (by decide +kernel) (da_cons (d_ix (d_v 5) (d_un un_neg ud_neg (d_int)) (fun _ _ => rfl)) (da_nil))) (da_nil)))) (da_cons (d_v 2) (da_nil)))))) (
    ds_cons (ds_set (i := 13) sc__law_echo.nd rfl (Or.inl rfl) (d_call (ok__law_hyphen T) cn__law_hyphen (hr.mono (by decide)) rfl T.g__law_hyphen T.F__law_hyphen.kp T.b__law_hyphen tk (da_cons (d_v 0) (da_cons (d_cb (c_min rfl hr.units) cd_min rfl T.z_min (by decide +kernel) (da_cons (d_cty call_int1 cd_int rfl T.z_int (by decide +kernel) (da_cons (d_v 11) (da_nil))) (da_cons (d_cty call_int1 cd_int rfl T.z_int (by decide +kernel) (da_cons (d_ix (d_v 5) (d_un un_neg ud_neg (d_int)) (fun _ _ => rfl)) (da_nil))) (da_nil)))) (da_cons (d_v 2) (da_nil)))))) (
    ds_last (ds_ret (d_tup (da_cons (d_cty call_tuple_of cd_tuple rfl T.z_tuple (by decide +kernel) (da_cons (d_op o_add od_add (d_op o_add od_add (d_v 5) (d_v 5)) (d_lst (da_cons (d_v 11) (da_nil)))) (da_nil))) (da_cons (d_cty call_tuple_of cd_tuple rfl T.z_tuple (by decide +kernel) (da_cons (d_op o_add od_add (d_op o_add od_add (d_op o_add od_add (d_v 6) (d_lst (da_cons (d_v 12) (da_nil)))) (d_v 6)) (d_lst (da_cons (d_v 13) (da_nil)))) (da_nil))) (da_nil))))))))))))))))
def lp__law_line_key_0 : MS := mRet (mTup (mCons (mCB fMin (mCons (mC (.int 10500)) (mCons (mCB fMax (mCons (mC (.int 1)) (mCons (mVar 5) (mNil)))) (mNil)))) (mCons (mVar 9) (mCons (mVar 10) (mCons (mVar 11) (mCons (mVar 12) (mCons (mVar 13) (mCons (mVar 14) (mNil)))))))))
def lp__law_line_key_1 : MS := mSeq (mIfS (mAnd (mTest (mOp (dGt) (mCB fLen (mCons (mOp dIx (mVar 1) (mC (.int 0))) (mNil))) (mC (.int 12)))) (mTest (mOp (dGt) (mCall run__law_take (mCons (mVar 0) (mCons (mC (.int 8)) (mNil)))) (mC (.int 0))))) (mSet 13 (mC (.int 0))) (mNext)) (
    (lp__law_line_key_0))
def lp__law_line_key_2 : MS := mSeq (mSet 13 (mCall run__law_take (mCons (mVar 0) (mCons (mC (.int 4)) (mNil))))) (
    mSeq (mSet 14 (mCall run__law_take (mCons (mVar 0) (mCons (mC (.int 4)) (mNil))))) (
    mSeq (mIfS (mTest (mOp (dEq) (mCall run__law_take (mCons (mVar 0) (mCons (mC (.int 8)) (mNil)))) (mC (.int 7)))) (mSeq (mSet 13 (mCall run__law_take (mCons (mVar 0) (mCons (mC (.int 10)) (mNil))))) (
    mSet 14 (mCall run__law_take (mCons (mVar 0) (mCons (mC (.int 10)) (mNil)))))) (mNext)) (
    (lp__law_line_key_1))))
def lp__law_line_key_3 : MS := mSeq (mSet 8 (mOp dIx (mLst (mCons (mC (.int 1)) (mCons (mC (.int 1)) (mCons (mC (.int 12)) (mCons (mC (.int 100)) (mNil)))))) (mCall run__law_take (mCons (mVar 0) (mCons (mC (.int 4)) (mNil)))))) (
    mSeq (mSet 9 (mCall run__law_take (mCons (mVar 0) (mCons (mVar 8) (mNil))))) (
    mSeq (mSet 10 (mOp dIx (mLst (mCons (mC (.str "both")) (mCons (mC (.str "both")) (mCons (mC (.str "left")) (mNil))))) (mCall run__law_take (mCons (mVar 0) (mCons (mC (.int 3)) (mNil)))))) (
    mSeq (mSet 11 (mOp dMul (mC (.int 25)) (mCall run__law_take (mCons (mVar 0) (mCons (mC (.int 4)) (mNil)))))) (
    mSeq (mSet 12 (mOp dMul (mC (.int 50)) (mCall run__law_take (mCons (mVar 0) (mCons (mC (.int 4)) (mNil)))))) (
    mSeq (mIfS (mTest (mOp (dEq) (mCall run__law_take (mCons (mVar 0) (mCons (mC (.int 8)) (mNil)))) (mC (.int 7)))) (mSeq (mSet 11 (mCall run__law_take (mCons (mVar 0) (mCons (mC (.int 10000)) (mNil))))) (
    mSet 12 (mCall run__law_take (mCons (mVar 0) (mCons (mC (.int 10000)) (mNil)))))) (mNext)) (
    (lp__law_line_key_2)))))))
def lp__law_line_key_4 : MS := mSeq (mIfS (mTest (mOp (dEq) (mVar 4) (mC (.int 7)))) (mSet 5 (mOp dAdd (mC (.int 1)) (mCall run__law_take (mCons (mVar 0) (mCons (mC (.int 10500)) (mNil)))))) (mNext)) (
    (lp__law_line_key_3))
def lp__law_line_key_5 : MS := mSeq (mIfS (mAnd (mTest (mOp (dIn false) (mVar 4) (mLst (mCons (mC (.int 1)) (mCons (mC (.int 3)) (mNil)))))) (mTest (mOp (dGt) (mCB fLen (mCons (mOp dIx (mVar 1) (mC (.int 0))) (mNil))) (mC (.int 0))))) (mSeq (mSet 6 (mCall run__law_take (mCons (mVar 0) (mCons (mCB fLen (mCons (mOp dIx (mVar 1) (mC (.int 0))) (mNil))) (mNil))))) (
    mSeq (mSet 7 (mOp dAdd (mOp dAdd (mVar 6) (mC (.int 1))) (mCall run__law_take (mCons (mVar 0) (mCons (mOp dSub (mCB fLen (mCons (mOp dIx (mVar 1) (mC (.int 0))) (mNil))) (mVar 6)) (mNil)))))) (
    mSet 5 (mOp dIx (mCall run__law_glue (mCons (mVar 1) (mCons (mVar 6) (mCons (mVar 7) (mNil))))) (mC (.int 0)))))) (mNext)) (
    (lp__law_line_key_4))
def m__law_line_key : MS := mSeq (mSet 2 (mComp (mSrcA (mOp dIx (mVar 1) (mC (.int 1)))) [15] (gN 15) (mTest (mOp (dEq) (mOp dIx (mVar 15) (mC (.int 0))) (mC (.str "gap")))) (mOp dIx (mVar 15) (mC (.int 1))))) (
    mSeq (mSet 3 (mOp dAdd (mCB fSum (mCons (mOp dIx (mVar 1) (mC (.int 0))) (mNil))) (mCB fSum (mCons (mVar 2) (mNil))))) (
    mSeq (mSet 4 (mCall run__law_take (mCons (mVar 0) (mCons (mC (.int 8)) (mNil))))) (
    mSeq (mSet 5 (mOp dAdd (mC (.int 5)) (mCall run__law_take (mCons (mVar 0) (mCons (mC (.int 150)) (mNil)))))) (
    mSeq (mIfS (mTest (mOp (dIn false) (mVar 4) (mLst (mCons (mC (.int 2)) (mCons (mC (.int 4)) (mCons (mC (.int 5)) (mCons (mC (.int 6)) (mNil)))))))) (mSet 5 (mOp dAdd (mOp dDiv (mVar 3) (mVar 4)) (mCall run__law_take (mCons (mVar 0) (mCons (mC (.int 24)) (mNil)))))) (mNext)) (
    (lp__law_line_key_5))))))
def run__law_line_key : Rn := run 2 16 m__law_line_key
theorem ent__law_line_key {x0 x1 : D} {hp : DH} : run__law_line_key [x0, x1] hp = fin (m__law_line_key [some x0, some x1, none, none, none, none, none, none, none, none, none, none, none, none, none, none] hp) := (rfl)
theorem cn__law_line_key : Cn 2 run__law_line_key := cn_run
theorem ok__law_line_key (T : Txt K mg) : FnOk P w K mg base (L2.CX P w) 2 T.a__law_line_key T.fd__law_line_key P__law_line_key (spF ⟨P, w⟩ ⟨K, mg⟩ 2 run__law_line_key) :=
  dfn_ok T.F__law_line_key sc__law_line_key rfl rfl fun cdv A outer s H E hr tk => ds_cons (ds_setLc (i := 2) (own := [("joint", 15)]) rfl sc__law_line_key.nd rfl rfl (sw_true rfl rfl rfl (by decide +kernel)) (di_any (d_ix (d_v 1) (d_int) (fun _ _ => rfl))) (blkOk_by (own := [("joint", 15)]) (N := N__law_line_key) (sc := defScope s__law_line_key) (by decide +kernel)) (gr_n 15) (keeps_n (by simp)) (fun _ _ _ _ _ => pg_name (i := 15) sc__law_line_key.nd rfl (Or.inl rfl)) (fun _ _ _ _ _ => dts_one (d_cmpT (o_eq hr.units) od_eq (d_ix (d_v 15) (d_int) (fun _ _ => rfl)) (d_str) (nomark _))) (fun _ _ _ _ _ => d_ix (d_v 15) (d_int) (fun _ _ => rfl))) (
    ds_cons (ds_set (i := 3) sc__law_line_key.nd rfl (Or.inl rfl) (d_op o_add od_add (d_cb (c_sum rfl) cd_sum rfl T.z_sum (by decide +kernel) (da_cons (d_ix (d_v 1) (d_int) (fun _ _ => rfl)) (da_nil))) (d_cb (c_sum rfl) cd_sum rfl T.z_sum (by decide +kernel) (da_cons (d_v 2) (da_nil))))) (
    ds_cons (ds_set (i := 4) sc__law_line_key.nd rfl (Or.inl rfl) (d_call (ok__law_take T) cn__law_take (hr.mono (by decide)) rfl T.g__law_take T.F__law_take.kp T.b__law_take tk (da_cons (d_v 0) (da_cons (d_int) (da_nil))))) (
    ds_cons (ds_set (i := 5) sc__law_line_key.nd rfl (Or.inl rfl) (d_op o_add od_add (d_int) (d_call (ok__law_take T) cn__law_take (hr.mono (by decide)) rfl T.g__law_take T.F__law_take.kp T.b__law_take tk (da_cons (d_v 0) (da_cons (d_int) (da_nil)))))) (
    ds_cons (ds_if (d_cmpT (o_in) od_in (d_v 4) (d_lst (da_cons (d_int) (da_cons (d_int) (da_cons (d_int) (da_cons (d_int) (da_nil)))))) (by rfl)) (ds_last (ds_set (i := 5) sc__law_line_key.nd rfl (Or.inl rfl) (d_op o_add od_add (d_op op_fdivW od_div (d_v 3) (d_v 4)) (d_call (ok__law_take T) cn__law_take (hr.mono (by decide)) rfl T.g__law_take T.F__law_take.kp T.b__law_take tk (da_cons (d_v 0) (da_cons (d_int) (da_nil))))))) (ds_nil)) (
    ds_cons (ds_if (d_wt (dw_and (d_cmpT (o_in) od_in (d_v 4) (d_lst (da_cons (d_int) (da_cons (d_int) (da_nil)))) (by rfl)) (dw_and1 (d_cmpT (o_gt hr.units) od_cmp (d_cb call_len cd_len rfl T.z_len (by decide +kernel) (da_cons (d_ix (d_v 1) (d_int) (fun _ _ => rfl)) (da_nil))) (d_int) (nomark _))))) (ds_cons (ds_set (i := 6) sc__law_line_key.nd rfl (Or.inl rfl) (d_call (ok__law_take T) cn__law_take (hr.mono (by decide)) rfl T.g__law_take T.F__law_take.kp T.b__law_take tk (da_cons (d_v 0) (da_cons (d_cb call_len cd_len rfl T.z_len (by decide +kernel) (da_cons (d_ix (d_v 1) (d_int) (fun _ _ => rfl)) (da_nil))) (da_nil))))) (
    ds_cons (ds_set (i := 7) sc__law_line_key.nd rfl (Or.inl rfl) (d_op o_add od_add (d_op o_add od_add (d_v 6) (d_int)) (d_call (ok__law_take T) cn__law_take (hr.mono (by decide)) rfl T.g__law_take T.F__law_take.kp T.b__law_take tk (da_cons (d_v 0) (da_cons (d_op op_sub od_sub (d_cb call_len cd_len rfl T.z_len (by decide +kernel) (da_cons (d_ix (d_v 1) (d_int) (fun _ _ => rfl)) (da_nil))) (d_v 6)) (da_nil)))))) (
    ds_last (ds_set (i := 5) sc__law_line_key.nd rfl (Or.inl rfl) (d_ix (d_call (ok__law_glue T) cn__law_glue (hr.mono (by decide)) rfl T.g__law_glue T.F__law_glue.kp T.b__law_glue tk (da_cons (d_v 1) (da_cons (d_v 6) (da_cons (d_v 7) (da_nil))))) (d_int) (fun _ _ => rfl)))))) (ds_nil)) (
    ds_cons (ds_if (d_cmpT (o_eq hr.units) od_eq (d_v 4) (d_int) (nomark _)) (ds_last (ds_set (i := 5) sc__law_line_key.nd rfl (Or.inl rfl) (d_op o_add od_add (d_int) (d_call (ok__law_take T) cn__law_take (hr.mono (by decide)) rfl T.g__law_take T.F__law_take.kp T.b__law_take tk (da_cons (d_v 0) (da_cons (d_int) (da_nil))))))) (ds_nil)) (
    ds_cons (ds_set (i := 8) sc__law_line_key.nd rfl (Or.inl rfl) (d_ix (d_lst (da_cons (d_int) (da_cons (d_int) (da_cons (d_int) (da_cons (d_int) (da_nil)))))) (d_call (ok__law_take T) cn__law_take (hr.mono (by decide)) rfl T.g__law_take T.F__law_take.kp T.b__law_take tk (da_cons (d_v 0) (da_cons (d_int) (da_nil)))) (fun _ _ => rfl))) (
    ds_cons (ds_set (i := 9) sc__law_line_key.nd rfl (Or.inl rfl) (d_call (ok__law_take T) cn__law_take (hr.mono (by decide)) rfl T.g__law_take T.F__law_take.kp T.b__law_take tk (da_cons (d_v 0) (da_cons (d_v 8) (da_nil))))) (
    ds_cons (ds_set (i := 10) sc__law_line_key.nd rfl (Or.inl rfl) (d_ix (d_lst (da_cons (d_str) (da_cons (d_str) (da_cons (d_str) (da_nil))))) (d_call (ok__law_take T) cn__law_take (hr.mono (by decide)) rfl T.g__law_take T.F__law_take.kp T.b__law_take tk (da_cons (d_v 0) (da_cons (d_int) (da_nil)))) (fun _ _ => rfl))) (
    ds_cons (ds_set (i := 11) sc__law_line_key.nd rfl (Or.inl rfl) (d_op o_mulI od_mul (d_int) (d_call (ok__law_take T) cn__law_take (hr.mono (by decide)) rfl T.g__law_take T.F__law_take.kp T.b__law_take tk (da_cons (d_v 0) (da_cons (d_int) (da_nil)))))) (
    ds_cons (ds_set (i := 12) sc__law_line_key.nd rfl (Or.inl rfl) (d_op o_mulI od_mul (d_int) (d_call (ok__law_take T) cn__law_take (hr.mono (by decide)) rfl T.g__law_take T.F__law_take.kp T.b__law_take tk (da_cons (d_v 0) (da_cons (d_int) (da_nil)))))) (
    ds_cons (ds_if (d_cmpT (o_eq hr.units) od_eq (d_call (ok__law_take T) cn__law_take (hr.mono (by decide)) rfl T.g__law_take T.F__law_take.kp T.b__law_take tk (da_cons (d_v 0) (da_cons (d_int) (da_nil)))) (d_int) (nomark _)) (ds_cons (ds_set (i := 11) sc__law_line_key.nd rfl (Or.inl rfl) (d_call (ok__law_take T) cn__law_take (hr.mono (by decide)) rfl T.g__law_take T.F__law_take.kp T.b__law_take tk (da_cons (d_v 0) (da_cons (d_int) (da_nil))))) (
    ds_last (ds_set (i := 12) sc__law_line_key.nd rfl (Or.inl rfl) (d_call (ok__law_take T) cn__law_take (hr.mono (by decide)) rfl T.g__law_take T.F__law_take.kp T.b__law_take tk (da_cons (d_v 0) (da_cons (d_int) (da_nil))))))) (ds_nil)) (
    ds_cons (ds_set (i := 13) sc__law_line_key.nd rfl (Or.inl rfl) (d_call (ok__law_take T) cn__law_take (hr.mono (by decide)) rfl T.g__law_take T.F__law_take.kp T.b__law_take tk (da_cons (d_v 0) (da_cons (d_int) (da_nil))))) (
    ds_cons (ds_set (i := 14) sc__law_line_key.nd rfl (Or.inl rfl) (d_call (ok__law_take T) cn__law_take (hr.mono (by decide)) rfl T.g__law_take T.F__law_take.kp T.b__law_take tk (da_cons (d_v 0) (da_cons (d_int) (da_nil))))) (
    ds_cons (ds_if (d_cmpT (o_eq hr.units) od_eq (d_call (ok__law_take T) cn__law_take (hr.mono (by decide)) rfl T.g__law_take T.F__law_take.kp T.b__law_take tk (da_cons (d_v 0) (da_cons (d_int) (da_nil)))) (d_int) (nomark _)) (ds_cons (ds_set (i := 13) sc__law_line_key.nd rfl (Or.inl rfl) (d_call (ok__law_take T) cn__law_take (hr.mono (by decide)) rfl T.g__law_take T.F__law_take.kp T.b__law_take tk (da_cons (d_v 0) (da_cons (d_int) (da_nil))))) (
    ds_last (ds_set (i := 14) sc__law_line_key.nd rfl (Or.inl rfl) (d_call (ok__law_take T) cn__law_take (hr.mono (by decide)) rfl T.g__law_take T.F__law_take.kp T.b__law_take tk (da_cons (d_v 0) (da_cons (d_int) (da_nil))))))) (ds_nil)) (
    ds_cons (ds_if (d_wt (dw_and (d_cmpT (o_gt hr.units) od_cmp (d_cb call_len cd_len rfl T.z_len (by decide +kernel) (da_cons (d_ix (d_v 1) (d_int) (fun _ _ => rfl)) (da_nil))) (d_int) (nomark _)) (dw_and1 (d_cmpT (o_gt hr.units) od_cmp (d_call (ok__law_take T) cn__law_take (hr.mono (by decide)) rfl T.g__law_take T.F__law_take.kp T.b__law_take tk (da_cons (d_v 0) (da_cons (d_int) (da_nil)))) (d_int) (nomark _))))) (ds_last (ds_set (i := 13) sc__law_line_key.nd rfl (Or.inl rfl) (d_int))) (ds_nil)) (
    ds_last (ds_ret (d_tup (da_cons (d_cb (c_min rfl hr.units) cd_min rfl T.z_min (by decide +kernel) (da_cons (d_int) (da_cons (d_cb (c_max rfl hr.units) cd_max rfl T.z_max (by decide +kernel) (da_cons (d_int) (da_cons (d_v 5) (da_nil)))) (da_nil)))) (da_cons (d_v 9) (da_cons (d_v 10) (da_cons (d_v 11) (da_cons (d_v 12) (da_cons (d_v 13) (da_cons (d_v 14) (da_nil)))))))))))))))))))))))))))
def lp__law_shared_0 : MS := mSeq (mSet 7 (mCB fMax (mCons (mCB fInt (mCons (mOp dAdd (mOp dIx (mVar 4) (mC (.int 0))) (mVar 6)) (mNil))) (mCons (mCB fInt (mCons (mOp dIx (mVar 5) (mC (.int 0))) (mNil))) (mNil))))) (
    mSeq (mSet 10 (mOp dIx (mLst (mCons (mC (.int 40)) (mCons (mC (.int 10500)) (mNil)))) (mCB fInt (mCons (mOp (dEq) (mCall run__law_take (mCons (mVar 0) (mCons (mC (.int 8)) (mNil)))) (mC (.int 7))) (mNil))))) (
    mSeq (mSet 9 (mOp dAdd (mVar 7) (mCall run__law_take (mCons (mVar 0) (mCons (mVar 10) (mNil)))))) (
    mRet (mOp dAdd (mTup (mCons (mCB fMin (mCons (mC (.int 10500)) (mCons (mVar 9) (mNil)))) (mCons (mOp dIx (mVar 3) (mC (.int 1))) (mCons (mC (.str "left")) (mNil))))) (mSl (mVar 3) (mPart (mC (.int 3))) (mNoP))))))
def lp__law_shared_1 : MS := mSeq (mIfS (mAnd (mTest (mOp (dEq) (mOp dIx (mVar 3) (mC (.int 2))) (mC (.str "both")))) (mTest (mOp (dLe) (mVar 7) (mVar 8)))) (mSeq (mSet 9 (mOp dAdd (mVar 7) (mCall run__law_take (mCons (mVar 0) (mCons (mOp dSub (mOp dAdd (mVar 8) (mC (.int 1))) (mVar 7)) (mNil)))))) (
    mRet (mOp dAdd (mTup (mCons (mCB fMin (mCons (mC (.int 10500)) (mCons (mVar 9) (mNil)))) (mNil))) (mSl (mVar 3) (mPart (mC (.int 1))) (mNoP))))) (mNext)) (
    (lp__law_shared_0))
def m__law_shared : MS := mSeq (mSet 4 (mCall run__law_glue (mCons (mVar 1) (mCons (mOp dIx (mVar 2) (mC (.int 0))) (mCons (mOp dIx (mVar 2) (mC (.int 1))) (mNil)))))) (
    mSeq (mSet 5 (mCall run__law_glue (mCons (mVar 1) (mCons (mOp dIx (mVar 2) (mC (.int 1))) (mCons (mOp dIx (mVar 2) (mC (.int 2))) (mNil)))))) (
    mSeq (mSet 6 (mOp dMul (mOp dIx (mVar 3) (mC (.int 1))) (mCB fInt (mCons (mOp (dEq) (mOp dIx (mVar 2) (mC (.int 0))) (mC (.int 0))) (mNil))))) (
    mSeq (mSet 7 (mCB fMax (mCons (mCB fInt (mCons (mOp dAdd (mOp dSub (mOp dIx (mVar 4) (mC (.int 0))) (mOp dIx (mVar 4) (mC (.int 2)))) (mVar 6)) (mNil))) (mCons (mCB fInt (mCons (mOp dSub (mOp dIx (mVar 5) (mC (.int 0))) (mOp dIx (mVar 5) (mC (.int 2)))) (mNil))) (mNil))))) (
    mSeq (mSet 8 (mOp dAdd (mOp dAdd (mOp dIx (mVar 4) (mC (.int 0))) (mOp dMul (mOp dIx (mVar 3) (mC (.int 6))) (mOp dIx (mVar 4) (mC (.int 1))))) (mVar 6))) (
    mSeq (mIfS (mTest (mOp (dLt) (mOp dIx (mVar 2) (mC (.int 2))) (mCB fLen (mCons (mOp dIx (mVar 1) (mC (.int 0))) (mNil))))) (mSet 8 (mCB fMin (mCons (mCB fInt (mCons (mVar 8) (mNil))) (mCons (mCB fInt (mCons (mOp dAdd (mOp dIx (mVar 5) (mC (.int 0))) (mOp dMul (mOp dIx (mVar 3) (mC (.int 6))) (mOp dIx (mVar 5) (mC (.int 1))))) (mNil))) (mNil))))) (mNext)) (
    (lp__law_shared_1)))))))
def run__law_shared : Rn := run 4 11 m__law_shared
theorem ent__law_shared {x0 x1 x2 x3 : D} {hp : DH} : run__law_shared [x0, x1, x2, x3] hp = fin (m__law_shared [some x0, some x1, some x2, some x3, none, none, none, none, none, none, none] hp) := (rfl)
theorem cn__law_shared : Cn 4 run__law_shared := cn_run
theorem ok__law_shared (T : Txt K mg) : FnOk P w K mg base (L2.CX P w) 2 T.a__law_shared T.fd__law_shared P__law_shared (spF ⟨P, w⟩ ⟨K, mg⟩ 4 run__law_shared) :=
  dfn_ok T.F__law_shared sc__law_shared rfl rfl fun cdv A outer s H E hr tk => ds_cons (ds_set (i := 4) sc__law_shared.nd rfl (Or.inl rfl) (d_call (ok__law_glue T) cn__law_glue (hr.mono (by decide)) rfl T.g__law_glue T.F__law_glue.kp T.b__law_glue tk (da_cons (d_v 1) (da_cons (d_ix (d_v 2) (d_int) (fun _ _ => rfl)) (da_cons (d_ix (d_v 2) (d_int) (fun _ _ => rfl)) (da_nil)))))) (
    ds_cons (ds_set (i := 5) sc__law_shared.nd rfl (Or.inl rfl) (d_call (ok__law_glue T) cn__law_glue (hr.mono (by decide)) rfl T.g__law_glue T.F__law_glue.kp T.b__law_glue tk (da_cons (d_v 1) (da_cons (d_ix (d_v 2) (d_int) (fun _ _ => rfl)) (da_cons (d_ix (d_v 2) (d_int) (fun _ _ => rfl)) (da_nil)))))) (
    ds_cons (ds_set (i := 6) sc__law_shared.nd rfl (Or.inl rfl) (d_op o_mulI od_mul (d_ix (d_v 3) (d_int) (fun _ _ => rfl)) (d_cty call_int1 cd_int rfl T.z_int (by decide +kernel) (da_cons (d_cmp (o_eq hr.units) od_eq (d_ix (d_v 2) (d_int) (fun _ _ => rfl)) (d_int) (nomark _)) (da_nil))))) (
    ds_cons (ds_set (i := 7) sc__law_shared.nd rfl (Or.inl rfl) (d_cb (c_max rfl hr.units) cd_max rfl T.z_max (by decide +kernel) (da_cons (d_cty call_int1 cd_int rfl T.z_int (by decide +kernel) (da_cons (d_op o_add od_add (d_op op_sub od_sub (d_ix (d_v 4) (d_int) (fun _ _ => rfl)) (d_ix (d_v 4) (d_int) (fun _ _ => rfl))) (d_v 6)) (da_nil))) (da_cons (d_cty call_int1 cd_int rfl T.z_int (by decide +kernel) (da_cons (d_op op_sub od_sub (d_ix (d_v 5) (d_int) (fun _ _ => rfl)) (d_ix (d_v 5) (d_int) (fun _ _ => rfl))) (da_nil))) (da_nil))))) (
    ds_cons (ds_set (i := 8) sc__law_shared.nd rfl (Or.inl rfl) (d_op o_add od_add (d_op o_add od_add (d_ix (d_v 4) (d_int) (fun _ _ => rfl)) (d_op o_mulI od_mul (d_ix (d_v 3) (d_int) (fun _ _ => rfl)) (d_ix (d_v 4) (d_int) (fun _ _ => rfl)))) (d_v 6))) (
    ds_cons (ds_if (d_cmpT (o_lt hr.units) od_cmp (d_ix (d_v 2) (d_int) (fun _ _ => rfl)) (d_cb call_len cd_len rfl T.z_len (by decide +kernel) (da_cons (d_ix (d_v 1) (d_int) (fun _ _ => rfl)) (da_nil))) (nomark _)) (ds_last (ds_set (i := 8) sc__law_shared.nd rfl (Or.inl rfl) (d_cb (c_min rfl hr.units) cd_min rfl T.z_min (by decide +kernel) (da_cons (d_cty call_int1 cd_int rfl T.z_int (by decide +kernel) (da_cons (d_v 8) (da_nil))) (da_cons (d_cty call_int1 cd_int rfl T.z_int (by decide +kernel) (da_cons (d_op o_add od_add (d_ix (d_v 5) (d_int) (fun _ _ => rfl)) (d_op o_mulI od_mul (d_ix (d_v 3) (d_int) (fun _ _ => rfl)) (d_ix (d_v 5) (d_int) (fun _ _ => rfl)))) (da_nil))) (da_nil)))))) (ds_nil)) (
    ds_cons (ds_if (d_wt (dw_and (d_cmpT (o_eq hr.units) od_eq (d_ix (d_v 3) (d_int) (fun _ _ => rfl)) (d_str) (nomark _)) (dw_and1 (d_cmpT (o_le hr.units) od_cmp (d_v 7) (d_v 8) (nomark _))))) (ds_cons (ds_set (i := 9) sc__law_shared.nd rfl (Or.inl rfl) (d_op o_add od_add (d_v 7) (d_call (ok__law_take T) cn__law_take (hr.mono (by decide)) rfl T.g__law_take T.F__law_take.kp T.b__law_take tk (da_cons (d_v 0) (da_cons (d_op op_sub od_sub (d_op o_add od_add (d_v 8) (d_int)) (d_v 7)) (da_nil)))))) (
    ds_last (ds_ret (d_op o_add od_add (d_tup (da_cons (d_cb (c_min rfl hr.units) cd_min rfl T.z_min (by decide +kernel) (da_cons (d_int) (da_cons (d_v 9) (da_nil)))) (da_nil))) (d_sl s_slX (d_v 3) (do_some (d_int)) (do_none)))))) (ds_nil)) (
    ds_cons (ds_set (i := 7) sc__law_shared.nd rfl (Or.inl rfl) (d_cb (c_max rfl hr.units) cd_max rfl T.z_max (by decide +kernel) (da_cons (d_cty call_int1 cd_int rfl T.z_int (by decide +kernel) (da_cons (d_op o_add od_add (d_ix (d_v 4) (d_int) (fun _ _ => rfl)) (d_v 6)) (da_nil))) (da_cons (d_cty call_int1 cd_int rfl T.z_int (by decide +kernel) (da_cons (d_ix (d_v 5) (d_int) (fun _ _ => rfl)) (da_nil))) (da_nil))))) (
    ds_cons (ds_set (i := 10) sc__law_shared.nd rfl (Or.inl rfl) (d_ix (d_lst (da_cons (d_int) (da_cons (d_int) (da_nil)))) (d_cty call_int1 cd_int rfl T.z_int (by decide +kernel) (da_cons (d_cmp (o_eq hr.units) od_eq (d_call (ok__law_take T) cn__law_take (hr.mono (by decide)) rfl T.g__law_take T.F__law_take.kp T.b__law_take tk (da_cons (d_v 0) (da_cons (d_int) (da_nil)))) (d_int) (nomark _)) (da_nil))) (fun _ _ => rfl))) (
    ds_cons (ds_set (i := 9) sc__law_shared.nd rfl (Or.inl rfl) (d_op o_add od_add (d_v 7) (d_call (ok__law_take T) cn__law_take (hr.mono (by decide)) rfl T.g__law_take T.F__law_take.kp T.b__law_take tk (da_cons (d_v 0) (da_cons (d_v 10) (da_nil)))))) (
    ds_last (ds_ret (d_op o_add od_add (d_tup (da_cons (d_cb (c_min rfl hr.units) cd_min rfl T.z_min (by decide +kernel) (da_cons (d_int) (da_cons (d_v 9) (da_nil)))) (da_cons (d_ix (d_v 3) (d_int) (fun _ _ => rfl)) (da_cons (d_str) (da_nil))))) (d_sl s_slX (d_v 3) (do_some (d_int)) (do_none))))))))))))))
def lp__law_echoed_0 : MS := mSet 4 (mCB fMax (mCons (mCB fInt (mCons (mVar 4) (mNil))) (mCons (mCB fInt (mCons (mOp dIx (mCall run__law_glue (mCons (mVar 1) (mCons (mOp dIx (mVar 5) (mC (.int 0))) (mCons (mOp dIx (mVar 5) (mC (.int 1))) (mNil))))) (mC (.int 0))) (mNil))) (mNil))))
def lp__law_echoed_1 : MS := mIfS (mNot (mTru (mCall run__law_priced (mCons (mVar 1) (mCons (mLst (mCons (mC (.int 0)) (mCons (mVar 2) (mCons (mVar 7) (mNil))))) (mCons (mVar 6) (mNil))))))) (mRet (mC (.bl false))) (mNext)
def lp__law_echoed_2 : MS := mSeq (mSet 8 (mLst (mCons (mC (.int 0)) (mCons (mVar 2) (mCons (mOp dMul (mC (.int 2)) (mVar 2)) (mNil)))))) (
    mRet (mCall run__law_both (mCons (mVar 1) (mCons (mVar 8) (mCons (mCall run__law_shared (mCons (mVar 0) (mCons (mVar 1) (mCons (mVar 8) (mCons (mVar 3) (mNil)))))) (mNil))))))
def lp__law_echoed_3 : MS := mSeq (mSet 4 (mOp dAdd (mVar 4) (mCall run__law_take (mCons (mVar 0) (mCons (mOp dIx (mLst (mCons (mC (.int 40)) (mCons (mC (.int 1400)) (mNil)))) (mCB fInt (mCons (mOp (dEq) (mCall run__law_take (mCons (mVar 0) (mCons (mC (.int 8)) (mNil)))) (mC (.int 7))) (mNil)))) (mNil)))))) (
    mSeq (mSet 6 (mTup (mCons (mVar 4) (mCons (mC (.int 0)) (mCons (mC (.str "left")) (mCons (mOp dIx (mVar 3) (mC (.int 3))) (mCons (mOp dAdd (mC (.int 1)) (mCall run__law_take (mCons (mVar 0) (mCons (mC (.int 9999)) (mNil))))) (mCons (mOp dIx (mVar 3) (mC (.int 5))) (mCons (mOp dIx (mVar 3) (mC (.int 6))) (mNil)))))))))) (
    mSeq (mFor (mSrcA (mLst (mCons (mOp dMul (mC (.int 2)) (mVar 2)) (mCons (mOp dAdd (mOp dMul (mC (.int 2)) (mVar 2)) (mC (.int 1))) (mNil))))) (gN 7) ((lp__law_echoed_1))) (
    (lp__law_echoed_2))))
def m__law_echoed : MS := mSeq (mSet 1 (mCall run__law_echo (mCons (mVar 0) (mNil)))) (
    mSeq (mSet 2 (mOp dDiv (mCB fLen (mCons (mOp dIx (mVar 1) (mC (.int 0))) (mNil))) (mC (.int 2)))) (
    mSeq (mSet 3 (mCall run__law_line_key (mCons (mVar 0) (mCons (mVar 1) (mNil))))) (
    mSeq (mSet 4 (mC (.int 0))) (
    mSeq (mFor (mSrcA (mLst (mCons (mLst (mCons (mC (.int 0)) (mCons (mVar 2) (mNil)))) (mCons (mLst (mCons (mVar 2) (mCons (mOp dMul (mC (.int 2)) (mVar 2)) (mNil)))) (mCons (mLst (mCons (mVar 2) (mCons (mOp dAdd (mOp dMul (mC (.int 2)) (mVar 2)) (mC (.int 1))) (mNil)))) (mNil)))))) (gN 5) ((lp__law_echoed_0))) (
    (lp__law_echoed_3))))))
def run__law_echoed : Rn := run 1 9 m__law_echoed
theorem ent__law_echoed {x0 : D} {hp : DH} : run__law_echoed [x0] hp = fin (m__law_echoed [some x0, none, none, none, none, none, none, none, none] hp) := (rfl)
theorem cn__law_echoed : Cn 1 run__law_echoed := cn_run
theorem ok__law_echoed (T : Txt K mg) : FnOk P w K mg base (L2.CX P w) 11 T.a__law_echoed T.fd__law_echoed P__law_echoed (spF ⟨P, w⟩ ⟨K, mg⟩ 1 run__law_echoed) :=
  dfn_ok T.F__law_echoed sc__law_echoed rfl rfl fun cdv A outer s H E hr tk => ds_cons (ds_set (i := 1) sc__law_echoed.nd rfl (Or.inl rfl) (d_call (ok__law_echo T) cn__law_echo (hr.mono (by decide)) rfl T.g__law_echo T.F__law_echo.kp T.b__law_echo tk (da_cons (d_v 0) (da_nil)))) (
    ds_cons (ds_set (i := 2) sc__law_echoed.nd rfl (Or.inl rfl) (d_op op_fdivW od_div (d_cb call_len cd_len rfl T.z_len (by decide +kernel) (da_cons (d_ix (d_v 1) (d_int) (fun _ _ => rfl)) (da_nil))) (d_int))) (
    ds_cons (ds_set (i := 3) sc__law_echoed.nd rfl (Or.inl rfl) (d_call (ok__law_line_key T) cn__law_line_key (hr.mono (by decide)) rfl T.g__law_line_key T.F__law_line_key.kp T.b__law_line_key tk (da_cons (d_v 0) (da_cons (d_v 1) (da_nil))))) (
    ds_cons (ds_set (i := 4) sc__law_echoed.nd rfl (Or.inl rfl) (d_int)) (
    ds_cons (ds_for (passes_of rfl) rfl (di_any (d_lst (da_cons (d_lst (da_cons (d_int) (da_cons (d_v 2) (da_nil)))) (da_cons (d_lst (da_cons (d_v 2) (da_cons (d_op o_mulI od_mul (d_int) (d_v 2)) (da_nil)))) (da_cons (d_lst (da_cons (d_v 2) (da_cons (d_op o_add od_add (d_op o_mulI od_mul (d_int) (d_v 2)) (d_int)) (da_nil)))) (da_nil)))))) (GR.dg (pg_name (i := 5) sc__law_echoed.nd rfl (Or.inl rfl)) (gr_n 5)) (ds_last (ds_set (i := 4) sc__law_echoed.nd rfl (Or.inl rfl) (d_cb (c_max rfl hr.units) cd_max rfl T.z_max (by decide +kernel) (da_cons (d_cty call_int1 cd_int rfl T.z_int (by decide +kernel) (da_cons (d_v 4) (da_nil))) (da_cons (d_cty call_int1 cd_int rfl T.z_int (by decide +kernel) (da_cons (d_ix (d_call (ok__law_glue T) cn__law_glue (hr.mono (by decide)) rfl T.g__law_glue T.F__law_glue.kp T.b__law_glue tk (da_cons (d_v 1) (da_cons (d_ix (d_v 5) (d_int) (fun _ _ => rfl)) (da_cons (d_ix (d_v 5) (d_int) (fun _ _ => rfl)) (da_nil))))) (d_int) (fun _ _ => rfl)) (da_nil))) (da_nil))))))) (
    ds_cons (ds_set (i := 4) sc__law_echoed.nd rfl (Or.inl rfl) (d_op o_add od_add (d_v 4) (d_call (ok__law_take T) cn__law_take (hr.mono (by decide)) rfl T.g__law_take T.F__law_take.kp T.b__law_take tk (da_cons (d_v 0) (da_cons (d_ix (d_lst (da_cons (d_int) (da_cons (d_int) (da_nil)))) (d_cty call_int1 cd_int rfl T.z_int (by decide +kernel) (da_cons (d_cmp (o_eq hr.units) od_eq (d_call (ok__law_take T) cn__law_take (hr.mono (by decide)) rfl T.g__law_take T.F__law_take.kp T.b__law_take tk (da_cons (d_v 0) (da_cons (d_int) (da_nil)))) (d_int) (nomark _)) (da_nil))) (fun _ _ => rfl)) (da_nil)))))) (
    ds_cons (ds_set (i := 6) sc__law_echoed.nd rfl (Or.inl rfl) (d_tup (da_cons (d_v 4) (da_cons (d_int) (da_cons (d_str) (da_cons (d_ix (d_v 3) (d_int) (fun _ _ => rfl)) (da_cons (d_op o_add od_add (d_int) (d_call (ok__law_take T) cn__law_take (hr.mono (by decide)) rfl T.g__law_take T.F__law_take.kp T.b__law_take tk (da_cons (d_v 0) (da_cons (d_int) (da_nil))))) (da_cons (d_ix (d_v 3) (d_int) (fun _ _ => rfl)) (da_cons (d_ix (d_v 3) (d_int) (fun _ _ => rfl)) (da_nil)))))))))) (
    ds_cons (ds_for (passes_of rfl) rfl (di_any (d_lst (da_cons (d_op o_mulI od_mul (d_int) (d_v 2)) (da_cons (d_op o_add od_add (d_op o_mulI od_mul (d_int) (d_v 2)) (d_int)) (da_nil))))) (GR.dg (pg_name (i := 7) sc__law_echoed.nd rfl (Or.inl rfl)) (gr_n 7)) (ds_last (ds_if (dt_not (dt_tru (d_call (ok__law_priced T) cn__law_priced (hr.mono (by decide)) rfl T.g__law_priced T.F__law_priced.kp T.b__law_priced tk (da_cons (d_v 1) (da_cons (d_lst (da_cons (d_int) (da_cons (d_v 2) (da_cons (d_v 7) (da_nil))))) (da_cons (d_v 6) (da_nil))))))) (ds_last (ds_ret (d_bl))) (ds_nil)))) (
    ds_cons (ds_set (i := 8) sc__law_echoed.nd rfl (Or.inl rfl) (d_lst (da_cons (d_int) (da_cons (d_v 2) (da_cons (d_op o_mulI od_mul (d_int) (d_v 2)) (da_nil)))))) (
    ds_last (ds_ret (d_call (ok__law_both T) cn__law_both (hr.mono (by decide)) rfl T.g__law_both T.F__law_both.kp T.b__law_both tk (da_cons (d_v 1) (da_cons (d_v 8) (da_cons (d_call (ok__law_shared T) cn__law_shared (hr.mono (by decide)) rfl T.g__law_shared T.F__law_shared.kp T.b__law_shared tk (da_cons (d_v 0) (da_cons (d_v 1) (da_cons (d_v 8) (da_cons (d_v 3) (da_nil)))))) (da_nil)))))))))))))))
def lp__law_pool_0 : MS := mRet (mLst (mCons (mVar 2) (mCons (mC (.int 0)) (mCons (mCB fInt (mCons (mOp (dGe) (mVar 2) (mOp dPow (mC (.int 10)) (mC (.int 18)))) (mNil))) (mCons (mOp dMod (mCB fInt (mCons (mOp dAdd (mVar 2) (mOp dMul (mVar 1) (mC (.int 7919)))) (mNil))) (mC (.int 2147483647))) (mCons (mC (.int 3)) (mNil)))))))
def m__law_pool : MS := mSeq (mSet 2 (mC (.int 0))) (
    mSeq (mIfS (mTest (mOp (dLt) (mVar 1) (mCB fLen (mCons (mVar 0) (mNil))))) (mSet 2 (mCB fAbs (mCons (mCB fInt (mCons (mOp dIx (mVar 0) (mVar 1)) (mNil))) (mNil)))) (mNext)) (
    (lp__law_pool_0)))
def run__law_pool : Rn := run 2 3 m__law_pool
theorem ent__law_pool {x0 x1 : D} {hp : DH} : run__law_pool [x0, x1] hp = fin (m__law_pool [some x0, some x1, none] hp) := (rfl)
theorem cn__law_pool : Cn 2 run__law_pool := cn_run
theorem ok__law_pool (T : Txt K mg) : FnOk P w K mg base (L2.CX P w) 1 T.a__law_pool T.fd__law_pool P__law_pool (spF ⟨P, w⟩ ⟨K, mg⟩ 2 run__law_pool) :=
  dfn_ok T.F__law_pool sc__law_pool rfl rfl fun cdv A outer s H E hr tk => ds_cons (ds_set (i := 2) sc__law_pool.nd rfl (Or.inl rfl) (d_int)) (
    ds_cons (ds_if (d_cmpT (o_lt hr.units) od_cmp (d_v 1) (d_cb call_len cd_len rfl T.z_len (by decide +kernel) (da_cons (d_v 0) (da_nil))) (nomark _)) (ds_last (ds_set (i := 2) sc__law_pool.nd rfl (Or.inl rfl) (d_cb call_abs cd_abs rfl T.z_abs (by decide +kernel) (da_cons (d_cty call_int1 cd_int rfl T.z_int (by decide +kernel) (da_cons (d_ix (d_v 0) (d_v 1) (fun _ _ => rfl)) (da_nil))) (da_nil))))) (ds_nil)) (
    ds_last (ds_ret (d_lst (da_cons (d_v 2) (da_cons (d_int) (da_cons (d_cty call_int1 cd_int rfl T.z_int (by decide +kernel) (da_cons (d_cmp (o_ge hr.units) od_cmp (d_v 2) (d_op op_pow od_pow (d_int) (d_int)) (nomark _)) (da_nil))) (da_cons (d_op op_mod od_mod (d_cty call_int1 cd_int rfl T.z_int (by decide +kernel) (da_cons (d_op o_add od_add (d_v 2) (d_op o_mulI od_mul (d_v 1) (d_int))) (da_nil))) (d_int)) (da_cons (d_int) (da_nil))))))))))
def lp__law_three_0 : MS := mSeq (mSet 6 (mCall run__law_take (mCons (mVar 0) (mCons (mOp dSub (mVar 2) (mC (.int 1))) (mNil))))) (
    mSeq (mSet 7 (mOp dAdd (mOp dAdd (mVar 6) (mC (.int 1))) (mCall run__law_take (mCons (mVar 0) (mCons (mOp dSub (mOp dSub (mVar 2) (mC (.int 1))) (mVar 6)) (mNil)))))) (
    mRet (mLst (mCons (mVar 6) (mCons (mVar 7) (mCons (mOp dAdd (mOp dAdd (mVar 7) (mC (.int 1))) (mCall run__law_take (mCons (mVar 0) (mCons (mOp dSub (mVar 2) (mVar 7)) (mNil))))) (mNil)))))))
def m__law_three : MS := mSeq (mSet 2 (mCB fLen (mCons (mOp dIx (mVar 1) (mC (.int 0))) (mNil)))) (
    mSeq (mSet 3 (mComp (mRng1 (mCons (mOp dSub (mVar 2) (mC (.int 1))) (mNil))) [8] (gN 8) (mTest (mOp (dEq) (mOp dIx (mOp dIx (mOp dIx (mVar 1) (mC (.int 1))) (mVar 8)) (mC (.int 0))) (mC (.str "hyphen")))) (mOp dAdd (mVar 8) (mC (.int 1))))) (
    mSeq (mIfS (mAnd (mTest (mOp (dEq) (mCall run__law_take (mCons (mVar 0) (mCons (mC (.int 3)) (mNil)))) (mC (.int 0)))) (mTest (mOp (dGt) (mCB fLen (mCons (mVar 3) (mNil))) (mC (.int 1))))) (mSeq (mSet 4 (mCall run__law_take (mCons (mVar 0) (mCons (mOp dSub (mCB fLen (mCons (mVar 3) (mNil))) (mC (.int 1))) (mNil))))) (
    mSeq (mSet 5 (mOp dAdd (mOp dAdd (mVar 4) (mC (.int 1))) (mCall run__law_take (mCons (mVar 0) (mCons (mOp dSub (mOp dSub (mCB fLen (mCons (mVar 3) (mNil))) (mC (.int 1))) (mVar 4)) (mNil)))))) (
    mRet (mLst (mCons (mCall run__law_take (mCons (mVar 0) (mCons (mOp dIx (mVar 3) (mVar 4)) (mNil)))) (mCons (mOp dIx (mVar 3) (mVar 4)) (mCons (mOp dIx (mVar 3) (mVar 5)) (mNil)))))))) (mNext)) (
    (lp__law_three_0))))
def run__law_three : Rn := run 2 9 m__law_three
theorem ent__law_three {x0 x1 : D} {hp : DH} : run__law_three [x0, x1] hp = fin (m__law_three [some x0, some x1, none, none, none, none, none, none, none] hp) := (rfl)
theorem cn__law_three : Cn 2 run__law_three := cn_run
theorem ok__law_three (T : Txt K mg) : FnOk P w K mg base (L2.CX P w) 2 T.a__law_three T.fd__law_three P__law_three (spF ⟨P, w⟩ ⟨K, mg⟩ 2 run__law_three) :=
  dfn_ok T.F__law_three sc__law_three rfl rfl fun cdv A outer s H E hr tk => ds_cons (ds_set (i := 2) sc__law_three.nd rfl (Or.inl rfl) (d_cb call_len cd_len rfl T.z_len (by decide +kernel) (da_cons (d_ix (d_v 1) (d_int) (fun _ _ => rfl)) (da_nil)))) (
    ds_cons (ds_setLc (i := 3) (own := [("k", 8)]) rfl sc__law_three.nd rfl rfl (sw_true rfl rfl rfl (by decide +kernel)) (di_range1 rfl T.z_range (da_cons (d_op op_sub od_sub (d_v 2) (d_int)) (da_nil))) (blkOk_by (own := [("k", 8)]) (N := N__law_three) (sc := defScope s__law_three) (by decide +kernel)) (gr_n 8) (keeps_n (by simp)) (fun _ _ _ _ _ => pg_name (i := 8) sc__law_three.nd rfl (Or.inl rfl)) (fun _ _ _ _ _ => dts_one (d_cmpT (o_eq hr.units) od_eq (d_ix (d_ix (d_ix (d_v 1) (d_int) (fun _ _ => rfl)) (d_v 8) (fun _ _ => rfl)) (d_int) (fun _ _ => rfl)) (d_str) (nomark _))) (fun _ _ _ _ _ => d_op o_add od_add (d_v 8) (d_int))) (
    ds_cons (ds_if (d_wt (dw_and (d_cmpT (o_eq hr.units) od_eq (d_call (ok__law_take T) cn__law_take (hr.mono (by decide)) rfl T.g__law_take T.F__law_take.kp T.b__law_take tk (da_cons (d_v 0) (da_cons (d_int) (da_nil)))) (d_int) (nomark _)) (dw_and1 (d_cmpT (o_gt hr.units) od_cmp (d_cb call_len cd_len rfl T.z_len (by decide +kernel) (da_cons (d_v 3) (da_nil))) (d_int) (nomark _))))) (ds_cons (ds_set (i := 4) sc__law_three.nd rfl (Or.inl rfl) (d_call (ok__law_take T) cn__law_take (hr.mono (by decide)) rfl T.g__law_take T.F__law_take.kp T.b__law_take tk (da_cons (d_v 0) (da_cons (d_op op_sub od_sub (d_cb call_len cd_len rfl T.z_len (by decide +kernel) (da_cons (d_v 3) (da_nil))) (d_int)) (da_nil))))) (
    ds_cons (ds_set (i := 5) sc__law_three.nd rfl (Or.inl rfl) (d_op o_add od_add (d_op o_add od_add (d_v 4) (d_int)) (d_call (ok__law_take T) cn__law_take (hr.mono (by decide)) rfl T.g__law_take T.F__law_take.kp T.b__law_take tk (da_cons (d_v 0) (da_cons (d_op op_sub od_sub (d_op op_sub od_sub (d_cb call_len cd_len rfl T.z_len (by decide +kernel) (da_cons (d_v 3) (da_nil))) (d_int)) (d_v 4)) (da_nil)))))) (
    ds_last (ds_ret (d_lst (da_cons (d_call (ok__law_take T) cn__law_take (hr.mono (by decide)) rfl T.g__law_take T.F__law_take.kp T.b__law_take tk (da_cons (d_v 0) (da_cons (d_ix (d_v 3) (d_v 4) (fun _ _ => rfl)) (da_nil)))) (da_cons (d_ix (d_v 3) (d_v 4) (fun _ _ => rfl)) (da_cons (d_ix (d_v 3) (d_v 5) (fun _ _ => rfl)) (da_nil))))))))) (ds_nil)) (
    ds_cons (ds_set (i := 6) sc__law_three.nd rfl (Or.inl rfl) (d_call (ok__law_take T) cn__law_take (hr.mono (by decide)) rfl T.g__law_take T.F__law_take.kp T.b__law_take tk (da_cons (d_v 0) (da_cons (d_op op_sub od_sub (d_v 2) (d_int)) (da_nil))))) (
    ds_cons (ds_set (i := 7) sc__law_three.nd rfl (Or.inl rfl) (d_op o_add od_add (d_op o_add od_add (d_v 6) (d_int)) (d_call (ok__law_take T) cn__law_take (hr.mono (by decide)) rfl T.g__law_take T.F__law_take.kp T.b__law_take tk (da_cons (d_v 0) (da_cons (d_op op_sub od_sub (d_op op_sub od_sub (d_v 2) (d_int)) (d_v 6)) (da_nil)))))) (
    ds_last (ds_ret (d_lst (da_cons (d_v 6) (da_cons (d_v 7) (da_cons (d_op o_add od_add (d_op o_add od_add (d_v 7) (d_int)) (d_call (ok__law_take T) cn__law_take (hr.mono (by decide)) rfl T.g__law_take T.F__law_take.kp T.b__law_take tk (da_cons (d_v 0) (da_cons (d_op op_sub od_sub (d_v 2) (d_v 7)) (da_nil))))) (da_nil)))))))))))
def lp_law_0 : MS := mRet (mCall run__law_echoed (mCons (mCall run__law_pool (mCons (mVar 0) (mCons (mC (.int 3)) (mNil)))) (mNil)))
def m_law : MS := mSeq (mSet 1 (mCall run__law_bare (mCons (mCall run__law_pool (mCons (mVar 0) (mCons (mC (.int 0)) (mNil)))) (mCons (mC (.int 2)) (mCons (mC (.int 6)) (mNil)))))) (
    mSeq (mSet 2 (mCall run__law_line_key (mCons (mCall run__law_pool (mCons (mVar 0) (mCons (mC (.int 1)) (mNil)))) (mCons (mVar 1) (mNil))))) (
    mSeq (mSet 3 (mCall run__law_pool (mCons (mVar 0) (mCons (mC (.int 2)) (mNil))))) (
    mSeq (mSet 4 (mCall run__law_three (mCons (mVar 3) (mCons (mVar 1) (mNil))))) (
    mSeq (mSet 2 (mCall run__law_shared (mCons (mVar 3) (mCons (mVar 1) (mCons (mVar 4) (mCons (mVar 2) (mNil))))))) (
    mSeq (mIfS (mNot (mTru (mCall run__law_both (mCons (mVar 1) (mCons (mVar 4) (mCons (mVar 2) (mNil))))))) (mRet (mC (.bl false))) (mNext)) (
    (lp_law_0)))))))
def run_law : Rn := run 1 5 m_law
theorem ent_law {x0 : D} {hp : DH} : run_law [x0] hp = fin (m_law [some x0, none, none, none, none] hp) := (rfl)
theorem cn_law : Cn 1 run_law := cn_run
theorem ok_law (T : Txt K mg) : FnOk P w K mg base (L2.CX P w) 12 T.a_law T.fd_law P_law (spF ⟨P, w⟩ ⟨K, mg⟩ 1 run_law) :=
  dfn_ok T.F_law sc_law rfl rfl fun cdv A outer s H E hr tk => ds_cons (ds_set (i := 1) sc_law.nd rfl (Or.inl rfl) (d_call (ok__law_bare T) cn__law_bare (hr.mono (by decide)) rfl T.g__law_bare T.F__law_bare.kp T.b__law_bare tk (da_cons (d_call (ok__law_pool T) cn__law_pool (hr.mono (by decide)) rfl T.g__law_pool T.F__law_pool.kp T.b__law_pool tk (da_cons (d_v 0) (da_cons (d_int) (da_nil)))) (da_cons (d_int) (da_cons (d_int) (da_nil)))))) (
    ds_cons (ds_set (i := 2) sc_law.nd rfl (Or.inl rfl) (d_call (ok__law_line_key T) cn__law_line_key (hr.mono (by decide)) rfl T.g__law_line_key T.F__law_line_key.kp T.b__law_line_key tk (da_cons (d_call (ok__law_pool T) cn__law_pool (hr.mono (by decide)) rfl T.g__law_pool T.F__law_pool.kp T.b__law_pool tk (da_cons (d_v 0) (da_cons (d_int) (da_nil)))) (da_cons (d_v 1) (da_nil))))) (
    ds_cons (ds_set (i := 3) sc_law.nd rfl (Or.inl rfl) (d_call (ok__law_pool T) cn__law_pool (hr.mono (by decide)) rfl T.g__law_pool T.F__law_pool.kp T.b__law_pool tk (da_cons (d_v 0) (da_cons (d_int) (da_nil))))) (
    ds_cons (ds_set (i := 4) sc_law.nd rfl (Or.inl rfl) (d_call (ok__law_three T) cn__law_three (hr.mono (by decide)) rfl T.g__law_three T.F__law_three.kp T.b__law_three tk (da_cons (d_v 3) (da_cons (d_v 1) (da_nil))))) (
    ds_cons (ds_set (i := 2) sc_law.nd rfl (Or.inl rfl) (d_call (ok__law_shared T) cn__law_shared (hr.mono (by decide)) rfl T.g__law_shared T.F__law_shared.kp T.b__law_shared tk (da_cons (d_v 3) (da_cons (d_v 1) (da_cons (d_v 4) (da_cons (d_v 2) (da_nil))))))) (
    ds_cons (ds_if (dt_not (dt_tru (d_call (ok__law_both T) cn__law_both (hr.mono (by decide)) rfl T.g__law_both T.F__law_both.kp T.b__law_both tk (da_cons (d_v 1) (da_cons (d_v 4) (da_cons (d_v 2) (da_nil))))))) (ds_last (ds_ret (d_bl))) (ds_nil)) (
    ds_last (ds_ret (d_call (ok__law_echoed T) cn__law_echoed (hr.mono (by decide)) rfl T.g__law_echoed T.F__law_echoed.kp T.b__law_echoed tk (da_cons (d_call (ok__law_pool T) cn__law_pool (hr.mono (by decide)) rfl T.g__law_pool T.F__law_pool.kp T.b__law_pool tk (da_cons (d_v 0) (da_cons (d_int) (da_nil)))) (da_nil))))))))))
end
theorem all_mk {K : PySem.W.Frag} {h : Heap} {mg : Str → Option Value} (X : K.In h) (G : h.Ns mainGlobals mg)
    {A_Glue : Addr}
    {A_Measure : Addr}
    {a__law_take : Addr} {od__law_take an__law_take : Option Addr} {sl__law_take : Array (Option Value)} {oc__law_take kV__law_take dc__law_take pm__law_take cd__law_take ct__law_take : Value}
    {a__law_joint : Addr} {od__law_joint an__law_joint : Option Addr} {sl__law_joint : Array (Option Value)} {oc__law_joint kV__law_joint dc__law_joint pm__law_joint cd__law_joint ct__law_joint : Value}
    {a__law_bare : Addr} {od__law_bare an__law_bare : Option Addr} {sl__law_bare : Array (Option Value)} {oc__law_bare kV__law_bare dc__law_bare pm__law_bare cd__law_bare ct__law_bare : Value}
    {a__law_glue : Addr} {od__law_glue an__law_glue : Option Addr} {sl__law_glue : Array (Option Value)} {oc__law_glue kV__law_glue dc__law_glue pm__law_glue cd__law_glue ct__law_glue : Value}
    {a__law_possible : Addr} {od__law_possible an__law_possible : Option Addr} {sl__law_possible : Array (Option Value)} {oc__law_possible kV__law_possible dc__law_possible pm__law_possible cd__law_possible ct__law_possible : Value}
    {a_Measure_init : Addr} {od_Measure_init an_Measure_init : Option Addr} {sl_Measure_init : Array (Option Value)} {oc_Measure_init  dc_Measure_init pm_Measure_init cd_Measure_init ct_Measure_init : Value}
    {D_Measure_init : Addr}
    {u_Measure_init_indent : Value}
    {u_Measure_init_align : Value}
    {u_Measure_init_hyphen : Value}
    {u_Measure_init_twin : Value}
    {u_Measure_init_river : Value}
    {u_Measure_init_loose : Value}
    {a_Measure_of : Addr} {od_Measure_of an_Measure_of : Option Addr} {sl_Measure_of : Array (Option Value)} {oc_Measure_of kV_Measure_of dc_Measure_of pm_Measure_of cd_Measure_of ct_Measure_of : Value}
    {mc_Measure_of : Value} {pp_Measure_of : Addr} {rest_Measure_of : List Value}
    {a__law_is_integer : Addr} {od__law_is_integer an__law_is_integer : Option Addr} {sl__law_is_integer : Array (Option Value)} {oc__law_is_integer kV__law_is_integer dc__law_is_integer pm__law_is_integer cd__law_is_integer ct__law_is_integer : Value}
    {a__law_overlap : Addr} {od__law_overlap an__law_overlap : Option Addr} {sl__law_overlap : Array (Option Value)} {oc__law_overlap kV__law_overlap dc__law_overlap pm__law_overlap cd__law_overlap ct__law_overlap : Value}
    {a__law_meet : Addr} {od__law_meet an__law_meet : Option Addr} {sl__law_meet : Array (Option Value)} {oc__law_meet kV__law_meet dc__law_meet pm__law_meet cd__law_meet ct__law_meet : Value}
    {a__law_spans : Addr} {od__law_spans an__law_spans : Option Addr} {sl__law_spans : Array (Option Value)} {oc__law_spans kV__law_spans dc__law_spans pm__law_spans cd__law_spans ct__law_spans : Value}
    {a__law_twin : Addr} {od__law_twin an__law_twin : Option Addr} {sl__law_twin : Array (Option Value)} {oc__law_twin kV__law_twin dc__law_twin pm__law_twin cd__law_twin ct__law_twin : Value}
    {a_count_overlapping : Addr} {od_count_overlapping an_count_overlapping : Option Addr} {sl_count_overlapping : Array (Option Value)} {oc_count_overlapping kV_count_overlapping dc_count_overlapping pm_count_overlapping cd_count_overlapping ct_count_overlapping : Value}
    {a_Glue_init : Addr} {od_Glue_init an_Glue_init : Option Addr} {sl_Glue_init : Array (Option Value)} {oc_Glue_init kV_Glue_init dc_Glue_init pm_Glue_init cd_Glue_init ct_Glue_init : Value}
    {a_Glue_add : Addr} {od_Glue_add an_Glue_add : Option Addr} {sl_Glue_add : Array (Option Value)} {oc_Glue_add kV_Glue_add dc_Glue_add pm_Glue_add cd_Glue_add ct_Glue_add : Value}
    {a_Glue_sub : Addr} {od_Glue_sub an_Glue_sub : Option Addr} {sl_Glue_sub : Array (Option Value)} {oc_Glue_sub kV_Glue_sub dc_Glue_sub pm_Glue_sub cd_Glue_sub ct_Glue_sub : Value}
    {a_extra_of : Addr} {od_extra_of an_extra_of : Option Addr} {sl_extra_of : Array (Option Value)} {oc_extra_of kV_extra_of dc_extra_of pm_extra_of cd_extra_of ct_extra_of : Value}
    {a_joint_glue : Addr} {od_joint_glue an_joint_glue : Option Addr} {sl_joint_glue : Array (Option Value)} {oc_joint_glue kV_joint_glue dc_joint_glue pm_joint_glue cd_joint_glue ct_joint_glue : Value}
    {a_extended_glue : Addr} {od_extended_glue an_extended_glue : Option Addr} {sl_extended_glue : Array (Option Value)} {oc_extended_glue kV_extended_glue dc_extended_glue pm_extended_glue cd_extended_glue ct_extended_glue : Value}
    {a_ends_at_hyphen : Addr} {od_ends_at_hyphen an_ends_at_hyphen : Option Addr} {sl_ends_at_hyphen : Array (Option Value)} {oc_ends_at_hyphen kV_ends_at_hyphen dc_ends_at_hyphen pm_ends_at_hyphen cd_ends_at_hyphen ct_ends_at_hyphen : Value}
    {a_finished_glue : Addr} {od_finished_glue an_finished_glue : Option Addr} {sl_finished_glue : Array (Option Value)} {oc_finished_glue kV_finished_glue dc_finished_glue pm_finished_glue cd_finished_glue ct_finished_glue : Value}
    {a_line_glue : Addr} {od_line_glue an_line_glue : Option Addr} {sl_line_glue : Array (Option Value)} {oc_line_glue kV_line_glue dc_line_glue pm_line_glue cd_line_glue ct_line_glue : Value}
    {a_room_of : Addr} {od_room_of an_room_of : Option Addr} {sl_room_of : Array (Option Value)} {oc_room_of kV_room_of dc_room_of pm_room_of cd_room_of ct_room_of : Value}
    {a_box_places : Addr} {od_box_places an_box_places : Option Addr} {sl_box_places : Array (Option Value)} {oc_box_places kV_box_places dc_box_places pm_box_places cd_box_places ct_box_places : Value}
    {a_gap_spans : Addr} {od_gap_spans an_gap_spans : Option Addr} {sl_gap_spans : Array (Option Value)} {oc_gap_spans kV_gap_spans dc_gap_spans pm_gap_spans cd_gap_spans ct_gap_spans : Value}
    {a_price_with_count : Addr} {od_price_with_count an_price_with_count : Option Addr} {sl_price_with_count : Array (Option Value)} {oc_price_with_count kV_price_with_count dc_price_with_count pm_price_with_count cd_price_with_count ct_price_with_count : Value}
    {a_pair_price : Addr} {od_pair_price an_pair_price : Option Addr} {sl_pair_price : Array (Option Value)} {oc_pair_price kV_pair_price dc_pair_price pm_pair_price cd_pair_price ct_pair_price : Value}
    {a__law_priced : Addr} {od__law_priced an__law_priced : Option Addr} {sl__law_priced : Array (Option Value)} {oc__law_priced kV__law_priced dc__law_priced pm__law_priced cd__law_priced ct__law_priced : Value}
    {a__law_both : Addr} {od__law_both an__law_both : Option Addr} {sl__law_both : Array (Option Value)} {oc__law_both kV__law_both dc__law_both pm__law_both cd__law_both ct__law_both : Value}
    {a__law_hyphen : Addr} {od__law_hyphen an__law_hyphen : Option Addr} {sl__law_hyphen : Array (Option Value)} {oc__law_hyphen kV__law_hyphen dc__law_hyphen pm__law_hyphen cd__law_hyphen ct__law_hyphen : Value}
    {a__law_echo : Addr} {od__law_echo an__law_echo : Option Addr} {sl__law_echo : Array (Option Value)} {oc__law_echo kV__law_echo dc__law_echo pm__law_echo cd__law_echo ct__law_echo : Value}
    {a__law_line_key : Addr} {od__law_line_key an__law_line_key : Option Addr} {sl__law_line_key : Array (Option Value)} {oc__law_line_key kV__law_line_key dc__law_line_key pm__law_line_key cd__law_line_key ct__law_line_key : Value}
    {a__law_shared : Addr} {od__law_shared an__law_shared : Option Addr} {sl__law_shared : Array (Option Value)} {oc__law_shared kV__law_shared dc__law_shared pm__law_shared cd__law_shared ct__law_shared : Value}
    {a__law_echoed : Addr} {od__law_echoed an__law_echoed : Option Addr} {sl__law_echoed : Array (Option Value)} {oc__law_echoed kV__law_echoed dc__law_echoed pm__law_echoed cd__law_echoed ct__law_echoed : Value}
    {a__law_pool : Addr} {od__law_pool an__law_pool : Option Addr} {sl__law_pool : Array (Option Value)} {oc__law_pool kV__law_pool dc__law_pool pm__law_pool cd__law_pool ct__law_pool : Value}
    {a__law_three : Addr} {od__law_three an__law_three : Option Addr} {sl__law_three : Array (Option Value)} {oc__law_three kV__law_three dc__law_three pm__law_three cd__law_three ct__law_three : Value}
    {a_law : Addr} {od_law an_law : Option Addr} {sl_law : Array (Option Value)} {oc_law kV_law dc_law pm_law cd_law ct_law : Value}
    (aC_Glue : PySem.W.nsIn K mainGlobals "Glue" = some (some (.ref A_Glue)))
    (p1_Glue : PySem.W.plainGet K A_Glue Str.empty = true)
    (p2_Glue : PySem.W.hasDictIn K A_Glue = true)
    (p3_Glue : PySem.W.plainOver K A_Glue = true)
    (p4_Glue : PySem.W.findIn K (.ref A_Glue) "__setattr__" = some (some (.builtin "object.__setattr__")))
    (aC_Measure : PySem.W.nsIn K mainGlobals "Measure" = some (some (.ref A_Measure)))
    (p1_Measure : PySem.W.plainGet K A_Measure Str.empty = true)
    (p2_Measure : PySem.W.hasDictIn K A_Measure = true)
    (p3_Measure : PySem.W.plainOver K A_Measure = true)
    (p4_Measure : PySem.W.findIn K (.ref A_Measure) "__setattr__" = some (some (.builtin "object.__setattr__")))
    (a1__law_take : PySem.W.nsIn K mainGlobals "_law_take" = some (some (.ref a__law_take)))
    (l1__law_take : K.lookup a__law_take = some ⟨oc__law_take, od__law_take, .func (PySem.W.fnOf "_law_take" "_law_take" (defArgs s__law_take) (defBody s__law_take) (defScope s__law_take) .none kV__law_take dc__law_take pm__law_take an__law_take cd__law_take ct__law_take), sl__law_take⟩)
    (c1__law_take : PySem.W.codeIn K cd__law_take "_law_take" = true)
    (k1__law_take : PySem.W.keepIn K (.ref a__law_take) = true)
    (a1__law_joint : PySem.W.nsIn K mainGlobals "_law_joint" = some (some (.ref a__law_joint)))
    (l1__law_joint : K.lookup a__law_joint = some ⟨oc__law_joint, od__law_joint, .func (PySem.W.fnOf "_law_joint" "_law_joint" (defArgs s__law_joint) (defBody s__law_joint) (defScope s__law_joint) .none kV__law_joint dc__law_joint pm__law_joint an__law_joint cd__law_joint ct__law_joint), sl__law_joint⟩)
    (c1__law_joint : PySem.W.codeIn K cd__law_joint "_law_joint" = true)
    (k1__law_joint : PySem.W.keepIn K (.ref a__law_joint) = true)
    (a1__law_bare : PySem.W.nsIn K mainGlobals "_law_bare" = some (some (.ref a__law_bare)))
    (l1__law_bare : K.lookup a__law_bare = some ⟨oc__law_bare, od__law_bare, .func (PySem.W.fnOf "_law_bare" "_law_bare" (defArgs s__law_bare) (defBody s__law_bare) (defScope s__law_bare) .none kV__law_bare dc__law_bare pm__law_bare an__law_bare cd__law_bare ct__law_bare), sl__law_bare⟩)
    (c1__law_bare : PySem.W.codeIn K cd__law_bare "_law_bare" = true)
    (k1__law_bare : PySem.W.keepIn K (.ref a__law_bare) = true)
    (a1__law_glue : PySem.W.nsIn K mainGlobals "_law_glue" = some (some (.ref a__law_glue)))
    (l1__law_glue : K.lookup a__law_glue = some ⟨oc__law_glue, od__law_glue, .func (PySem.W.fnOf "_law_glue" "_law_glue" (defArgs s__law_glue) (defBody s__law_glue) (defScope s__law_glue) .none kV__law_glue dc__law_glue pm__law_glue an__law_glue cd__law_glue ct__law_glue), sl__law_glue⟩)
    (c1__law_glue : PySem.W.codeIn K cd__law_glue "_law_glue" = true)
    (k1__law_glue : PySem.W.keepIn K (.ref a__law_glue) = true)
    (a1__law_possible : PySem.W.nsIn K mainGlobals "_law_possible" = some (some (.ref a__law_possible)))
    (l1__law_possible : K.lookup a__law_possible = some ⟨oc__law_possible, od__law_possible, .func (PySem.W.fnOf "_law_possible" "_law_possible" (defArgs s__law_possible) (defBody s__law_possible) (defScope s__law_possible) .none kV__law_possible dc__law_possible pm__law_possible an__law_possible cd__law_possible ct__law_possible), sl__law_possible⟩)
    (c1__law_possible : PySem.W.codeIn K cd__law_possible "_law_possible" = true)
    (k1__law_possible : PySem.W.keepIn K (.ref a__law_possible) = true)
    (a1_Measure_init : PySem.W.findIn K (.ref A_Measure) "__init__" = some (some (.ref a_Measure_init)))
    (i1_Measure_init : PySem.W.isFn K (.ref a_Measure_init) = true)
    (l1_Measure_init : K.lookup a_Measure_init = some ⟨oc_Measure_init, od_Measure_init, .func (PySem.W.fnOf "__init__" "Measure.__init__" (defArgs s_Measure_init) (defBody s_Measure_init) (defScope s_Measure_init) .none (.ref D_Measure_init) dc_Measure_init pm_Measure_init an_Measure_init cd_Measure_init ct_Measure_init), sl_Measure_init⟩)
    (c1_Measure_init : PySem.W.codeIn K cd_Measure_init "Measure.__init__" = true)
    (k1_Measure_init : PySem.W.keepIn K (.ref a_Measure_init) = true)
    (w1_Measure_init_indent : PySem.W.nsIn K D_Measure_init "indent" = some (some u_Measure_init_indent))
    (w2_Measure_init_indent : RelV (.int 0) u_Measure_init_indent)
    (w1_Measure_init_align : PySem.W.nsIn K D_Measure_init "align" = some (some u_Measure_init_align))
    (w2_Measure_init_align : RelV (.str "both") u_Measure_init_align)
    (w1_Measure_init_hyphen : PySem.W.nsIn K D_Measure_init "hyphen" = some (some u_Measure_init_hyphen))
    (w2_Measure_init_hyphen : RelV (.int 50) u_Measure_init_hyphen)
    (w1_Measure_init_twin : PySem.W.nsIn K D_Measure_init "twin" = some (some u_Measure_init_twin))
    (w2_Measure_init_twin : RelV (.int 100) u_Measure_init_twin)
    (w1_Measure_init_river : PySem.W.nsIn K D_Measure_init "river" = some (some u_Measure_init_river))
    (w2_Measure_init_river : RelV (.int 0) u_Measure_init_river)
    (w1_Measure_init_loose : PySem.W.nsIn K D_Measure_init "loose" = some (some u_Measure_init_loose))
    (w2_Measure_init_loose : RelV (.int 2) u_Measure_init_loose)
    (s0_Measure_of : PySem.W.typeIn K (.ref A_Measure) = some mc_Measure_of)
    (s1_Measure_of : PySem.W.readsIn K A_Measure mc_Measure_of = true)
    (s2_Measure_of : PySem.W.findCls K (.ref A_Measure) mc_Measure_of "of" = some (.get (.builtin "staticmethod.__get__") (.ref pp_Measure_of) .none (.ref A_Measure)))
    (s3_Measure_of : PySem.W.recIn K pp_Measure_of "staticmethod" = some (.ref a_Measure_of :: rest_Measure_of))
    (s4_Measure_of : PySem.W.specialIn K (.ref A_Measure) "__getattribute__" = some (some (.builtin "type.__getattribute__")))
    (l1_Measure_of : K.lookup a_Measure_of = some ⟨oc_Measure_of, od_Measure_of, .func (PySem.W.fnOf "of" "Measure.of" (defArgs s_Measure_of) (defBody s_Measure_of) (defScope s_Measure_of) .none kV_Measure_of dc_Measure_of pm_Measure_of an_Measure_of cd_Measure_of ct_Measure_of), sl_Measure_of⟩)
    (c1_Measure_of : PySem.W.codeIn K cd_Measure_of "Measure.of" = true)
    (k1_Measure_of : PySem.W.keepIn K (.ref a_Measure_of) = true)
    (a1__law_is_integer : PySem.W.nsIn K mainGlobals "_law_is_integer" = some (some (.ref a__law_is_integer)))
    (l1__law_is_integer : K.lookup a__law_is_integer = some ⟨oc__law_is_integer, od__law_is_integer, .func (PySem.W.fnOf "_law_is_integer" "_law_is_integer" (defArgs s__law_is_integer) (defBody s__law_is_integer) (defScope s__law_is_integer) .none kV__law_is_integer dc__law_is_integer pm__law_is_integer an__law_is_integer cd__law_is_integer ct__law_is_integer), sl__law_is_integer⟩)
    (c1__law_is_integer : PySem.W.codeIn K cd__law_is_integer "_law_is_integer" = true)
    (k1__law_is_integer : PySem.W.keepIn K (.ref a__law_is_integer) = true)
    (a1__law_overlap : PySem.W.nsIn K mainGlobals "_law_overlap" = some (some (.ref a__law_overlap)))
    (l1__law_overlap : K.lookup a__law_overlap = some ⟨oc__law_overlap, od__law_overlap, .func (PySem.W.fnOf "_law_overlap" "_law_overlap" (defArgs s__law_overlap) (defBody s__law_overlap) (defScope s__law_overlap) .none kV__law_overlap dc__law_overlap pm__law_overlap an__law_overlap cd__law_overlap ct__law_overlap), sl__law_overlap⟩)
    (c1__law_overlap : PySem.W.codeIn K cd__law_overlap "_law_overlap" = true)
    (k1__law_overlap : PySem.W.keepIn K (.ref a__law_overlap) = true)
    (a1__law_meet : PySem.W.nsIn K mainGlobals "_law_meet" = some (some (.ref a__law_meet)))
    (l1__law_meet : K.lookup a__law_meet = some ⟨oc__law_meet, od__law_meet, .func (PySem.W.fnOf "_law_meet" "_law_meet" (defArgs s__law_meet) (defBody s__law_meet) (defScope s__law_meet) .none kV__law_meet dc__law_meet pm__law_meet an__law_meet cd__law_meet ct__law_meet), sl__law_meet⟩)
    (c1__law_meet : PySem.W.codeIn K cd__law_meet "_law_meet" = true)
    (k1__law_meet : PySem.W.keepIn K (.ref a__law_meet) = true)
    (a1__law_spans : PySem.W.nsIn K mainGlobals "_law_spans" = some (some (.ref a__law_spans)))
    (l1__law_spans : K.lookup a__law_spans = some ⟨oc__law_spans, od__law_spans, .func (PySem.W.fnOf "_law_spans" "_law_spans" (defArgs s__law_spans) (defBody s__law_spans) (defScope s__law_spans) .none kV__law_spans dc__law_spans pm__law_spans an__law_spans cd__law_spans ct__law_spans), sl__law_spans⟩)
    (c1__law_spans : PySem.W.codeIn K cd__law_spans "_law_spans" = true)
    (k1__law_spans : PySem.W.keepIn K (.ref a__law_spans) = true)
    (a1__law_twin : PySem.W.nsIn K mainGlobals "_law_twin" = some (some (.ref a__law_twin)))
    (l1__law_twin : K.lookup a__law_twin = some ⟨oc__law_twin, od__law_twin, .func (PySem.W.fnOf "_law_twin" "_law_twin" (defArgs s__law_twin) (defBody s__law_twin) (defScope s__law_twin) .none kV__law_twin dc__law_twin pm__law_twin an__law_twin cd__law_twin ct__law_twin), sl__law_twin⟩)
    (c1__law_twin : PySem.W.codeIn K cd__law_twin "_law_twin" = true)
    (k1__law_twin : PySem.W.keepIn K (.ref a__law_twin) = true)
    (a1_count_overlapping : PySem.W.nsIn K mainGlobals "count_overlapping" = some (some (.ref a_count_overlapping)))
    (l1_count_overlapping : K.lookup a_count_overlapping = some ⟨oc_count_overlapping, od_count_overlapping, .func (PySem.W.fnOf "count_overlapping" "count_overlapping" (defArgs s_count_overlapping) (defBody s_count_overlapping) (defScope s_count_overlapping) .none kV_count_overlapping dc_count_overlapping pm_count_overlapping an_count_overlapping cd_count_overlapping ct_count_overlapping), sl_count_overlapping⟩)
    (c1_count_overlapping : PySem.W.codeIn K cd_count_overlapping "count_overlapping" = true)
    (k1_count_overlapping : PySem.W.keepIn K (.ref a_count_overlapping) = true)
    (a1_Glue_init : PySem.W.findIn K (.ref A_Glue) "__init__" = some (some (.ref a_Glue_init)))
    (i1_Glue_init : PySem.W.isFn K (.ref a_Glue_init) = true)
    (l1_Glue_init : K.lookup a_Glue_init = some ⟨oc_Glue_init, od_Glue_init, .func (PySem.W.fnOf "__init__" "Glue.__init__" (defArgs s_Glue_init) (defBody s_Glue_init) (defScope s_Glue_init) .none kV_Glue_init dc_Glue_init pm_Glue_init an_Glue_init cd_Glue_init ct_Glue_init), sl_Glue_init⟩)
    (c1_Glue_init : PySem.W.codeIn K cd_Glue_init "Glue.__init__" = true)
    (k1_Glue_init : PySem.W.keepIn K (.ref a_Glue_init) = true)
    (a1_Glue_add : PySem.W.findIn K (.ref A_Glue) "__add__" = some (some (.ref a_Glue_add)))
    (i1_Glue_add : PySem.W.isFn K (.ref a_Glue_add) = true)
    (l1_Glue_add : K.lookup a_Glue_add = some ⟨oc_Glue_add, od_Glue_add, .func (PySem.W.fnOf "__add__" "Glue.__add__" (defArgs s_Glue_add) (defBody s_Glue_add) (defScope s_Glue_add) .none kV_Glue_add dc_Glue_add pm_Glue_add an_Glue_add cd_Glue_add ct_Glue_add), sl_Glue_add⟩)
    (c1_Glue_add : PySem.W.codeIn K cd_Glue_add "Glue.__add__" = true)
    (k1_Glue_add : PySem.W.keepIn K (.ref a_Glue_add) = true)
    (a1_Glue_sub : PySem.W.findIn K (.ref A_Glue) "__sub__" = some (some (.ref a_Glue_sub)))
    (i1_Glue_sub : PySem.W.isFn K (.ref a_Glue_sub) = true)
    (l1_Glue_sub : K.lookup a_Glue_sub = some ⟨oc_Glue_sub, od_Glue_sub, .func (PySem.W.fnOf "__sub__" "Glue.__sub__" (defArgs s_Glue_sub) (defBody s_Glue_sub) (defScope s_Glue_sub) .none kV_Glue_sub dc_Glue_sub pm_Glue_sub an_Glue_sub cd_Glue_sub ct_Glue_sub), sl_Glue_sub⟩)
    (c1_Glue_sub : PySem.W.codeIn K cd_Glue_sub "Glue.__sub__" = true)
    (k1_Glue_sub : PySem.W.keepIn K (.ref a_Glue_sub) = true)
    (a1_extra_of : PySem.W.nsIn K mainGlobals "extra_of" = some (some (.ref a_extra_of)))
    (l1_extra_of : K.lookup a_extra_of = some ⟨oc_extra_of, od_extra_of, .func (PySem.W.fnOf "extra_of" "extra_of" (defArgs s_extra_of) (defBody s_extra_of) (defScope s_extra_of) .none kV_extra_of dc_extra_of pm_extra_of an_extra_of cd_extra_of ct_extra_of), sl_extra_of⟩)
    (c1_extra_of : PySem.W.codeIn K cd_extra_of "extra_of" = true)
    (k1_extra_of : PySem.W.keepIn K (.ref a_extra_of) = true)
    (a1_joint_glue : PySem.W.nsIn K mainGlobals "joint_glue" = some (some (.ref a_joint_glue)))
    (l1_joint_glue : K.lookup a_joint_glue = some ⟨oc_joint_glue, od_joint_glue, .func (PySem.W.fnOf "joint_glue" "joint_glue" (defArgs s_joint_glue) (defBody s_joint_glue) (defScope s_joint_glue) .none kV_joint_glue dc_joint_glue pm_joint_glue an_joint_glue cd_joint_glue ct_joint_glue), sl_joint_glue⟩)
    (c1_joint_glue : PySem.W.codeIn K cd_joint_glue "joint_glue" = true)
    (k1_joint_glue : PySem.W.keepIn K (.ref a_joint_glue) = true)
    (a1_extended_glue : PySem.W.nsIn K mainGlobals "extended_glue" = some (some (.ref a_extended_glue)))
    (l1_extended_glue : K.lookup a_extended_glue = some ⟨oc_extended_glue, od_extended_glue, .func (PySem.W.fnOf "extended_glue" "extended_glue" (defArgs s_extended_glue) (defBody s_extended_glue) (defScope s_extended_glue) .none kV_extended_glue dc_extended_glue pm_extended_glue an_extended_glue cd_extended_glue ct_extended_glue), sl_extended_glue⟩)
    (c1_extended_glue : PySem.W.codeIn K cd_extended_glue "extended_glue" = true)
    (k1_extended_glue : PySem.W.keepIn K (.ref a_extended_glue) = true)
    (a1_ends_at_hyphen : PySem.W.nsIn K mainGlobals "ends_at_hyphen" = some (some (.ref a_ends_at_hyphen)))
    (l1_ends_at_hyphen : K.lookup a_ends_at_hyphen = some ⟨oc_ends_at_hyphen, od_ends_at_hyphen, .func (PySem.W.fnOf "ends_at_hyphen" "ends_at_hyphen" (defArgs s_ends_at_hyphen) (defBody s_ends_at_hyphen) (defScope s_ends_at_hyphen) .none kV_ends_at_hyphen dc_ends_at_hyphen pm_ends_at_hyphen an_ends_at_hyphen cd_ends_at_hyphen ct_ends_at_hyphen), sl_ends_at_hyphen⟩)
    (c1_ends_at_hyphen : PySem.W.codeIn K cd_ends_at_hyphen "ends_at_hyphen" = true)
    (k1_ends_at_hyphen : PySem.W.keepIn K (.ref a_ends_at_hyphen) = true)
    (a1_finished_glue : PySem.W.nsIn K mainGlobals "finished_glue" = some (some (.ref a_finished_glue)))
    (l1_finished_glue : K.lookup a_finished_glue = some ⟨oc_finished_glue, od_finished_glue, .func (PySem.W.fnOf "finished_glue" "finished_glue" (defArgs s_finished_glue) (defBody s_finished_glue) (defScope s_finished_glue) .none kV_finished_glue dc_finished_glue pm_finished_glue an_finished_glue cd_finished_glue ct_finished_glue), sl_finished_glue⟩)
    (c1_finished_glue : PySem.W.codeIn K cd_finished_glue "finished_glue" = true)
    (k1_finished_glue : PySem.W.keepIn K (.ref a_finished_glue) = true)
    (a1_line_glue : PySem.W.nsIn K mainGlobals "line_glue" = some (some (.ref a_line_glue)))
    (l1_line_glue : K.lookup a_line_glue = some ⟨oc_line_glue, od_line_glue, .func (PySem.W.fnOf "line_glue" "line_glue" (defArgs s_line_glue) (defBody s_line_glue) (defScope s_line_glue) .none kV_line_glue dc_line_glue pm_line_glue an_line_glue cd_line_glue ct_line_glue), sl_line_glue⟩)
    (c1_line_glue : PySem.W.codeIn K cd_line_glue "line_glue" = true)
    (k1_line_glue : PySem.W.keepIn K (.ref a_line_glue) = true)
    (a1_room_of : PySem.W.nsIn K mainGlobals "room_of" = some (some (.ref a_room_of)))
    (l1_room_of : K.lookup a_room_of = some ⟨oc_room_of, od_room_of, .func (PySem.W.fnOf "room_of" "room_of" (defArgs s_room_of) (defBody s_room_of) (defScope s_room_of) .none kV_room_of dc_room_of pm_room_of an_room_of cd_room_of ct_room_of), sl_room_of⟩)
    (c1_room_of : PySem.W.codeIn K cd_room_of "room_of" = true)
    (k1_room_of : PySem.W.keepIn K (.ref a_room_of) = true)
    (a1_box_places : PySem.W.nsIn K mainGlobals "box_places" = some (some (.ref a_box_places)))
    (l1_box_places : K.lookup a_box_places = some ⟨oc_box_places, od_box_places, .func (PySem.W.fnOf "box_places" "box_places" (defArgs s_box_places) (defBody s_box_places) (defScope s_box_places) .none kV_box_places dc_box_places pm_box_places an_box_places cd_box_places ct_box_places), sl_box_places⟩)
    (c1_box_places : PySem.W.codeIn K cd_box_places "box_places" = true)
    (k1_box_places : PySem.W.keepIn K (.ref a_box_places) = true)
    (a1_gap_spans : PySem.W.nsIn K mainGlobals "gap_spans" = some (some (.ref a_gap_spans)))
    (l1_gap_spans : K.lookup a_gap_spans = some ⟨oc_gap_spans, od_gap_spans, .func (PySem.W.fnOf "gap_spans" "gap_spans" (defArgs s_gap_spans) (defBody s_gap_spans) (defScope s_gap_spans) .none kV_gap_spans dc_gap_spans pm_gap_spans an_gap_spans cd_gap_spans ct_gap_spans), sl_gap_spans⟩)
    (c1_gap_spans : PySem.W.codeIn K cd_gap_spans "gap_spans" = true)
    (k1_gap_spans : PySem.W.keepIn K (.ref a_gap_spans) = true)
    (a1_price_with_count : PySem.W.nsIn K mainGlobals "price_with_count" = some (some (.ref a_price_with_count)))
    (l1_price_with_count : K.lookup a_price_with_count = some ⟨oc_price_with_count, od_price_with_count, .func (PySem.W.fnOf "price_with_count" "price_with_count" (defArgs s_price_with_count) (defBody s_price_with_count) (defScope s_price_with_count) .none kV_price_with_count dc_price_with_count pm_price_with_count an_price_with_count cd_price_with_count ct_price_with_count), sl_price_with_count⟩)
    (c1_price_with_count : PySem.W.codeIn K cd_price_with_count "price_with_count" = true)
    (k1_price_with_count : PySem.W.keepIn K (.ref a_price_with_count) = true)
    (a1_pair_price : PySem.W.nsIn K mainGlobals "pair_price" = some (some (.ref a_pair_price)))
    (l1_pair_price : K.lookup a_pair_price = some ⟨oc_pair_price, od_pair_price, .func (PySem.W.fnOf "pair_price" "pair_price" (defArgs s_pair_price) (defBody s_pair_price) (defScope s_pair_price) .none kV_pair_price dc_pair_price pm_pair_price an_pair_price cd_pair_price ct_pair_price), sl_pair_price⟩)
    (c1_pair_price : PySem.W.codeIn K cd_pair_price "pair_price" = true)
    (k1_pair_price : PySem.W.keepIn K (.ref a_pair_price) = true)
    (a1__law_priced : PySem.W.nsIn K mainGlobals "_law_priced" = some (some (.ref a__law_priced)))
    (l1__law_priced : K.lookup a__law_priced = some ⟨oc__law_priced, od__law_priced, .func (PySem.W.fnOf "_law_priced" "_law_priced" (defArgs s__law_priced) (defBody s__law_priced) (defScope s__law_priced) .none kV__law_priced dc__law_priced pm__law_priced an__law_priced cd__law_priced ct__law_priced), sl__law_priced⟩)
    (c1__law_priced : PySem.W.codeIn K cd__law_priced "_law_priced" = true)
    (k1__law_priced : PySem.W.keepIn K (.ref a__law_priced) = true)
    (a1__law_both : PySem.W.nsIn K mainGlobals "_law_both" = some (some (.ref a__law_both)))
    (l1__law_both : K.lookup a__law_both = some ⟨oc__law_both, od__law_both, .func (PySem.W.fnOf "_law_both" "_law_both" (defArgs s__law_both) (defBody s__law_both) (defScope s__law_both) .none kV__law_both dc__law_both pm__law_both an__law_both cd__law_both ct__law_both), sl__law_both⟩)
    (c1__law_both : PySem.W.codeIn K cd__law_both "_law_both" = true)
    (k1__law_both : PySem.W.keepIn K (.ref a__law_both) = true)
    (a1__law_hyphen : PySem.W.nsIn K mainGlobals "_law_hyphen" = some (some (.ref a__law_hyphen)))
    (l1__law_hyphen : K.lookup a__law_hyphen = some ⟨oc__law_hyphen, od__law_hyphen, .func (PySem.W.fnOf "_law_hyphen" "_law_hyphen" (defArgs s__law_hyphen) (defBody s__law_hyphen) (defScope s__law_hyphen) .none kV__law_hyphen dc__law_hyphen pm__law_hyphen an__law_hyphen cd__law_hyphen ct__law_hyphen), sl__law_hyphen⟩)
    (c1__law_hyphen : PySem.W.codeIn K cd__law_hyphen "_law_hyphen" = true)
    (k1__law_hyphen : PySem.W.keepIn K (.ref a__law_hyphen) = true)
    (a1__law_echo : PySem.W.nsIn K mainGlobals "_law_echo" = some (some (.ref a__law_echo)))
    (l1__law_echo : K.lookup a__law_echo = some ⟨oc__law_echo, od__law_echo, .func (PySem.W.fnOf "_law_echo" "_law_echo" (defArgs s__law_echo) (defBody s__law_echo) (defScope s__law_echo) .none kV__law_echo dc__law_echo pm__law_echo an__law_echo cd__law_echo ct__law_echo), sl__law_echo⟩)
    (c1__law_echo : PySem.W.codeIn K cd__law_echo "_law_echo" = true)
    (k1__law_echo : PySem.W.keepIn K (.ref a__law_echo) = true)
    (a1__law_line_key : PySem.W.nsIn K mainGlobals "_law_line_key" = some (some (.ref a__law_line_key)))
    (l1__law_line_key : K.lookup a__law_line_key = some ⟨oc__law_line_key, od__law_line_key, .func (PySem.W.fnOf "_law_line_key" "_law_line_key" (defArgs s__law_line_key) (defBody s__law_line_key) (defScope s__law_line_key) .none kV__law_line_key dc__law_line_key pm__law_line_key an__law_line_key cd__law_line_key ct__law_line_key), sl__law_line_key⟩)
    (c1__law_line_key : PySem.W.codeIn K cd__law_line_key "_law_line_key" = true)
    (k1__law_line_key : PySem.W.keepIn K (.ref a__law_line_key) = true)
    (a1__law_shared : PySem.W.nsIn K mainGlobals "_law_shared" = some (some (.ref a__law_shared)))
    (l1__law_shared : K.lookup a__law_shared = some ⟨oc__law_shared, od__law_shared, .func (PySem.W.fnOf "_law_shared" "_law_shared" (defArgs s__law_shared) (defBody s__law_shared) (defScope s__law_shared) .none kV__law_shared dc__law_shared pm__law_shared an__law_shared cd__law_shared ct__law_shared), sl__law_shared⟩)
    (c1__law_shared : PySem.W.codeIn K cd__law_shared "_law_shared" = true)
    (k1__law_shared : PySem.W.keepIn K (.ref a__law_shared) = true)
    (a1__law_echoed : PySem.W.nsIn K mainGlobals "_law_echoed" = some (some (.ref a__law_echoed)))
    (l1__law_echoed : K.lookup a__law_echoed = some ⟨oc__law_echoed, od__law_echoed, .func (PySem.W.fnOf "_law_echoed" "_law_echoed" (defArgs s__law_echoed) (defBody s__law_echoed) (defScope s__law_echoed) .none kV__law_echoed dc__law_echoed pm__law_echoed an__law_echoed cd__law_echoed ct__law_echoed), sl__law_echoed⟩)
    (c1__law_echoed : PySem.W.codeIn K cd__law_echoed "_law_echoed" = true)
    (k1__law_echoed : PySem.W.keepIn K (.ref a__law_echoed) = true)
    (a1__law_pool : PySem.W.nsIn K mainGlobals "_law_pool" = some (some (.ref a__law_pool)))
    (l1__law_pool : K.lookup a__law_pool = some ⟨oc__law_pool, od__law_pool, .func (PySem.W.fnOf "_law_pool" "_law_pool" (defArgs s__law_pool) (defBody s__law_pool) (defScope s__law_pool) .none kV__law_pool dc__law_pool pm__law_pool an__law_pool cd__law_pool ct__law_pool), sl__law_pool⟩)
    (c1__law_pool : PySem.W.codeIn K cd__law_pool "_law_pool" = true)
    (k1__law_pool : PySem.W.keepIn K (.ref a__law_pool) = true)
    (a1__law_three : PySem.W.nsIn K mainGlobals "_law_three" = some (some (.ref a__law_three)))
    (l1__law_three : K.lookup a__law_three = some ⟨oc__law_three, od__law_three, .func (PySem.W.fnOf "_law_three" "_law_three" (defArgs s__law_three) (defBody s__law_three) (defScope s__law_three) .none kV__law_three dc__law_three pm__law_three an__law_three cd__law_three ct__law_three), sl__law_three⟩)
    (c1__law_three : PySem.W.codeIn K cd__law_three "_law_three" = true)
    (k1__law_three : PySem.W.keepIn K (.ref a__law_three) = true)
    (a1_law : PySem.W.nsIn K mainGlobals "law" = some (some (.ref a_law)))
    (l1_law : K.lookup a_law = some ⟨oc_law, od_law, .func (PySem.W.fnOf "law" "law" (defArgs s_law) (defBody s_law) (defScope s_law) .none kV_law dc_law pm_law an_law cd_law ct_law), sl_law⟩)
    (c1_law : PySem.W.codeIn K cd_law "law" = true)
    (k1_law : PySem.W.keepIn K (.ref a_law) = true)
    (m1_Glue : PySem.W.makesIn K A_Glue = true)
    (m2_Glue : PySem.W.keepIn K (.ref A_Glue) = true)
    (m1_Measure : PySem.W.makesIn K A_Measure = true)
    (m2_Measure : PySem.W.keepIn K (.ref A_Measure) = true)
    (o1_Glue_add : PySem.W.selfFirst K A_Glue = true)
    (o1_Glue_sub : PySem.W.selfFirst K A_Glue = true)
    (n1_align_Measure : PySem.W.findIn K (.ref A_Measure) "align" = some none)
    (n1_hyphen_Measure : PySem.W.findIn K (.ref A_Measure) "hyphen" = some none)
    (n1_indent_Measure : PySem.W.findIn K (.ref A_Measure) "indent" = some none)
    (n1_loose_Measure : PySem.W.findIn K (.ref A_Measure) "loose" = some none)
    (n1_river_Measure : PySem.W.findIn K (.ref A_Measure) "river" = some none)
    (n1_shrink_Glue : PySem.W.findIn K (.ref A_Glue) "shrink" = some none)
    (n1_stretch_Glue : PySem.W.findIn K (.ref A_Glue) "stretch" = some none)
    (n1_twin_Measure : PySem.W.findIn K (.ref A_Measure) "twin" = some none)
    (n1_width_Measure : PySem.W.findIn K (.ref A_Measure) "width" = some none)
    (n1_width_Glue : PySem.W.findIn K (.ref A_Glue) "width" = some none)
    (e1_Glue : PySem.W.kitOne K (.type "int") (.ref A_Glue) = some false)
    (e2_Glue : PySem.W.kitOne K (.type "bool") (.ref A_Glue) = some false)
    (e3_Glue : PySem.W.kitOne K (.ref A_Glue) (.ref A_Glue) = some true)
    (e4_Glue : PySem.W.findIn K (.ref A_Glue) "__class__" = some (some (.builtin "object.__class__")))
    (e5_Glue : PySem.W.specialIn K (.builtin "object.__class__") "__get__" = some (some (.builtin "getset_descriptor.__get__")))
    (e6_Glue : PySem.W.takesIn K (.builtin "object.__class__") = some true)
    (e7_Glue : PySem.W.mroIn K A_Glue (.type "object") = some true)
    (z1_abs : PySem.W.nsIn K mainGlobals "abs" = some none)
    (z1_bool : PySem.W.nsIn K mainGlobals "bool" = some none)
    (z1_int : PySem.W.nsIn K mainGlobals "int" = some none)
    (z1_isinstance : PySem.W.nsIn K mainGlobals "isinstance" = some none)
    (z1_len : PySem.W.nsIn K mainGlobals "len" = some none)
    (z1_max : PySem.W.nsIn K mainGlobals "max" = some none)
    (z1_min : PySem.W.nsIn K mainGlobals "min" = some none)
    (z1_range : PySem.W.nsIn K mainGlobals "range" = some none)
    (z1_sum : PySem.W.nsIn K mainGlobals "sum" = some none)
    (z1_tuple : PySem.W.nsIn K mainGlobals "tuple" = some none)
    : Nonempty (Txt K mg) := by
  obtain ⟨_, bk⟩ := (fundk_mk (kws := kw_Measure) l1_Measure_init c1_Measure_init k1_Measure_init (all_cons ⟨_, w1_Measure_init_indent, w2_Measure_init_indent⟩ (all_cons ⟨_, w1_Measure_init_align, w2_Measure_init_align⟩ (all_cons ⟨_, w1_Measure_init_hyphen, w2_Measure_init_hyphen⟩ (all_cons ⟨_, w1_Measure_init_twin, w2_Measure_init_twin⟩ (all_cons ⟨_, w1_Measure_init_river, w2_Measure_init_river⟩ (all_cons ⟨_, w1_Measure_init_loose, w2_Measure_init_loose⟩ (all_nil)))))))).kbinds0 (ps := P_Measure_init) 2 ["indent", "align", "hyphen", "twin", "river", "loose"] [] (fun us mv ws => us ++ ws) (by simp) (by simp) (fun r1 r2 r3 => r1.append r3) (fun Dd doc pm an cdv ct us mv ws l1 l2 l3 => match us, mv, ws, l1, l2, l3 with | [_, _], [], [_, _, _, _, _, _], _, _, _ => rfl)
  exact ⟨{
    a__law_take := a__law_take
    fd__law_take := _
    F__law_take := fund_mk l1__law_take c1__law_take k1__law_take
    b__law_take := (fund_mk l1__law_take c1__law_take k1__law_take).bindsN fun _ _ _ _ _ _ us hl => match us, hl with | [_, _], _ => rfl
    g__law_take := PySem.W.mg_of X G a1__law_take
    a__law_joint := a__law_joint
    fd__law_joint := _
    F__law_joint := fund_mk l1__law_joint c1__law_joint k1__law_joint
    b__law_joint := (fund_mk l1__law_joint c1__law_joint k1__law_joint).bindsN fun _ _ _ _ _ _ us hl => match us, hl with | [_, _, _], _ => rfl
    g__law_joint := PySem.W.mg_of X G a1__law_joint
    a__law_bare := a__law_bare
    fd__law_bare := _
    F__law_bare := fund_mk l1__law_bare c1__law_bare k1__law_bare
    b__law_bare := (fund_mk l1__law_bare c1__law_bare k1__law_bare).bindsN fun _ _ _ _ _ _ us hl => match us, hl with | [_, _, _], _ => rfl
    g__law_bare := PySem.W.mg_of X G a1__law_bare
    a__law_glue := a__law_glue
    fd__law_glue := _
    F__law_glue := fund_mk l1__law_glue c1__law_glue k1__law_glue
    b__law_glue := (fund_mk l1__law_glue c1__law_glue k1__law_glue).bindsN fun _ _ _ _ _ _ us hl => match us, hl with | [_, _, _], _ => rfl
    g__law_glue := PySem.W.mg_of X G a1__law_glue
    a__law_possible := a__law_possible
    fd__law_possible := _
    F__law_possible := fund_mk l1__law_possible c1__law_possible k1__law_possible
    b__law_possible := (fund_mk l1__law_possible c1__law_possible k1__law_possible).bindsN fun _ _ _ _ _ _ us hl => match us, hl with | [_, _, _, _], _ => rfl
    g__law_possible := PySem.W.mg_of X G a1__law_possible
    a_Measure_init := a_Measure_init
    fd_Measure_init := _
    F_Measure_init := fundk_mk (kws := kw_Measure) l1_Measure_init c1_Measure_init k1_Measure_init (all_cons ⟨_, w1_Measure_init_indent, w2_Measure_init_indent⟩ (all_cons ⟨_, w1_Measure_init_align, w2_Measure_init_align⟩ (all_cons ⟨_, w1_Measure_init_hyphen, w2_Measure_init_hyphen⟩ (all_cons ⟨_, w1_Measure_init_twin, w2_Measure_init_twin⟩ (all_cons ⟨_, w1_Measure_init_river, w2_Measure_init_river⟩ (all_cons ⟨_, w1_Measure_init_loose, w2_Measure_init_loose⟩ (all_nil)))))))
    a_Measure_of := a_Measure_of
    fd_Measure_of := _
    F_Measure_of := fund_mk l1_Measure_of c1_Measure_of k1_Measure_of
    b_Measure_of := (fund_mk l1_Measure_of c1_Measure_of k1_Measure_of).bindsN fun _ _ _ _ _ _ us hl => match us, hl with | [_], _ => rfl
    a__law_is_integer := a__law_is_integer
    fd__law_is_integer := _
    F__law_is_integer := fund_mk l1__law_is_integer c1__law_is_integer k1__law_is_integer
    b__law_is_integer := (fund_mk l1__law_is_integer c1__law_is_integer k1__law_is_integer).bindsN fun _ _ _ _ _ _ us hl => match us, hl with | [_], _ => rfl
    g__law_is_integer := PySem.W.mg_of X G a1__law_is_integer
    a__law_overlap := a__law_overlap
    fd__law_overlap := _
    F__law_overlap := fund_mk l1__law_overlap c1__law_overlap k1__law_overlap
    b__law_overlap := (fund_mk l1__law_overlap c1__law_overlap k1__law_overlap).bindsN fun _ _ _ _ _ _ us hl => match us, hl with | [_, _], _ => rfl
    g__law_overlap := PySem.W.mg_of X G a1__law_overlap
    a__law_meet := a__law_meet
    fd__law_meet := _
    F__law_meet := fund_mk l1__law_meet c1__law_meet k1__law_meet
    b__law_meet := (fund_mk l1__law_meet c1__law_meet k1__law_meet).bindsN fun _ _ _ _ _ _ us hl => match us, hl with | [_, _], _ => rfl
    g__law_meet := PySem.W.mg_of X G a1__law_meet
    a__law_spans := a__law_spans
    fd__law_spans := _
    F__law_spans := fund_mk l1__law_spans c1__law_spans k1__law_spans
    b__law_spans := (fund_mk l1__law_spans c1__law_spans k1__law_spans).bindsN fun _ _ _ _ _ _ us hl => match us, hl with | [_, _, _, _], _ => rfl
    g__law_spans := PySem.W.mg_of X G a1__law_spans
    a__law_twin := a__law_twin
    fd__law_twin := _
    F__law_twin := fund_mk l1__law_twin c1__law_twin k1__law_twin
    b__law_twin := (fund_mk l1__law_twin c1__law_twin k1__law_twin).bindsN fun _ _ _ _ _ _ us hl => match us, hl with | [_, _, _], _ => rfl
    g__law_twin := PySem.W.mg_of X G a1__law_twin
    a_count_overlapping := a_count_overlapping
    fd_count_overlapping := _
    F_count_overlapping := fund_mk l1_count_overlapping c1_count_overlapping k1_count_overlapping
    b_count_overlapping := (fund_mk l1_count_overlapping c1_count_overlapping k1_count_overlapping).bindsN fun _ _ _ _ _ _ us hl => match us, hl with | [_, _], _ => rfl
    g_count_overlapping := PySem.W.mg_of X G a1_count_overlapping
    a_Glue_init := a_Glue_init
    fd_Glue_init := _
    F_Glue_init := fund_mk l1_Glue_init c1_Glue_init k1_Glue_init
    b_Glue_init := (fund_mk l1_Glue_init c1_Glue_init k1_Glue_init).bindsN fun _ _ _ _ _ _ us hl => match us, hl with | [_, _, _, _], _ => rfl
    a_Glue_add := a_Glue_add
    fd_Glue_add := _
    F_Glue_add := fund_mk l1_Glue_add c1_Glue_add k1_Glue_add
    b_Glue_add := (fund_mk l1_Glue_add c1_Glue_add k1_Glue_add).bindsN fun _ _ _ _ _ _ us hl => match us, hl with | [_, _], _ => rfl
    a_Glue_sub := a_Glue_sub
    fd_Glue_sub := _
    F_Glue_sub := fund_mk l1_Glue_sub c1_Glue_sub k1_Glue_sub
    b_Glue_sub := (fund_mk l1_Glue_sub c1_Glue_sub k1_Glue_sub).bindsN fun _ _ _ _ _ _ us hl => match us, hl with | [_, _], _ => rfl
    a_extra_of := a_extra_of
    fd_extra_of := _
    F_extra_of := fund_mk l1_extra_of c1_extra_of k1_extra_of
    b_extra_of := (fund_mk l1_extra_of c1_extra_of k1_extra_of).bindsN fun _ _ _ _ _ _ us hl => match us, hl with | [_, _, _, _, _], _ => rfl
    g_extra_of := PySem.W.mg_of X G a1_extra_of
    a_joint_glue := a_joint_glue
    fd_joint_glue := _
    F_joint_glue := fund_mk l1_joint_glue c1_joint_glue k1_joint_glue
    b_joint_glue := (fund_mk l1_joint_glue c1_joint_glue k1_joint_glue).bindsN fun _ _ _ _ _ _ us hl => match us, hl with | [_], _ => rfl
    g_joint_glue := PySem.W.mg_of X G a1_joint_glue
    a_extended_glue := a_extended_glue
    fd_extended_glue := _
    F_extended_glue := fund_mk l1_extended_glue c1_extended_glue k1_extended_glue
    b_extended_glue := (fund_mk l1_extended_glue c1_extended_glue k1_extended_glue).bindsN fun _ _ _ _ _ _ us hl => match us, hl with | [_, _, _], _ => rfl
    g_extended_glue := PySem.W.mg_of X G a1_extended_glue
    a_ends_at_hyphen := a_ends_at_hyphen
    fd_ends_at_hyphen := _
    F_ends_at_hyphen := fund_mk l1_ends_at_hyphen c1_ends_at_hyphen k1_ends_at_hyphen
    b_ends_at_hyphen := (fund_mk l1_ends_at_hyphen c1_ends_at_hyphen k1_ends_at_hyphen).bindsN fun _ _ _ _ _ _ us hl => match us, hl with | [_, _], _ => rfl
    g_ends_at_hyphen := PySem.W.mg_of X G a1_ends_at_hyphen
    a_finished_glue := a_finished_glue
    fd_finished_glue := _
    F_finished_glue := fund_mk l1_finished_glue c1_finished_glue k1_finished_glue
    b_finished_glue := (fund_mk l1_finished_glue c1_finished_glue k1_finished_glue).bindsN fun _ _ _ _ _ _ us hl => match us, hl with | [_, _, _], _ => rfl
    g_finished_glue := PySem.W.mg_of X G a1_finished_glue
    a_line_glue := a_line_glue
    fd_line_glue := _
    F_line_glue := fund_mk l1_line_glue c1_line_glue k1_line_glue
    b_line_glue := (fund_mk l1_line_glue c1_line_glue k1_line_glue).bindsN fun _ _ _ _ _ _ us hl => match us, hl with | [_, _, _], _ => rfl
    g_line_glue := PySem.W.mg_of X G a1_line_glue
    a_room_of := a_room_of
    fd_room_of := _
    F_room_of := fund_mk l1_room_of c1_room_of k1_room_of
    b_room_of := (fund_mk l1_room_of c1_room_of k1_room_of).bindsN fun _ _ _ _ _ _ us hl => match us, hl with | [_, _], _ => rfl
    g_room_of := PySem.W.mg_of X G a1_room_of
    a_box_places := a_box_places
    fd_box_places := _
    F_box_places := fund_mk l1_box_places c1_box_places k1_box_places
    b_box_places := (fund_mk l1_box_places c1_box_places k1_box_places).bindsN fun _ _ _ _ _ _ us hl => match us, hl with | [_, _, _, _], _ => rfl
    g_box_places := PySem.W.mg_of X G a1_box_places
    a_gap_spans := a_gap_spans
    fd_gap_spans := _
    F_gap_spans := fund_mk l1_gap_spans c1_gap_spans k1_gap_spans
    b_gap_spans := (fund_mk l1_gap_spans c1_gap_spans k1_gap_spans).bindsN fun _ _ _ _ _ _ us hl => match us, hl with | [_, _, _, _], _ => rfl
    g_gap_spans := PySem.W.mg_of X G a1_gap_spans
    a_price_with_count := a_price_with_count
    fd_price_with_count := _
    F_price_with_count := fund_mk l1_price_with_count c1_price_with_count k1_price_with_count
    b_price_with_count := (fund_mk l1_price_with_count c1_price_with_count k1_price_with_count).bindsN fun _ _ _ _ _ _ us hl => match us, hl with | [_, _, _, _, _], _ => rfl
    g_price_with_count := PySem.W.mg_of X G a1_price_with_count
    a_pair_price := a_pair_price
    fd_pair_price := _
    F_pair_price := fund_mk l1_pair_price c1_pair_price k1_pair_price
    b_pair_price := (fund_mk l1_pair_price c1_pair_price k1_pair_price).bindsN fun _ _ _ _ _ _ us hl => match us, hl with | [_, _, _, _, _], _ => rfl
    g_pair_price := PySem.W.mg_of X G a1_pair_price
    a__law_priced := a__law_priced
    fd__law_priced := _
    F__law_priced := fund_mk l1__law_priced c1__law_priced k1__law_priced
    b__law_priced := (fund_mk l1__law_priced c1__law_priced k1__law_priced).bindsN fun _ _ _ _ _ _ us hl => match us, hl with | [_, _, _], _ => rfl
    g__law_priced := PySem.W.mg_of X G a1__law_priced
    a__law_both := a__law_both
    fd__law_both := _
    F__law_both := fund_mk l1__law_both c1__law_both k1__law_both
    b__law_both := (fund_mk l1__law_both c1__law_both k1__law_both).bindsN fun _ _ _ _ _ _ us hl => match us, hl with | [_, _, _], _ => rfl
    g__law_both := PySem.W.mg_of X G a1__law_both
    a__law_hyphen := a__law_hyphen
    fd__law_hyphen := _
    F__law_hyphen := fund_mk l1__law_hyphen c1__law_hyphen k1__law_hyphen
    b__law_hyphen := (fund_mk l1__law_hyphen c1__law_hyphen k1__law_hyphen).bindsN fun _ _ _ _ _ _ us hl => match us, hl with | [_, _, _], _ => rfl
    g__law_hyphen := PySem.W.mg_of X G a1__law_hyphen
    a__law_echo := a__law_echo
    fd__law_echo := _
    F__law_echo := fund_mk l1__law_echo c1__law_echo k1__law_echo
    b__law_echo := (fund_mk l1__law_echo c1__law_echo k1__law_echo).bindsN fun _ _ _ _ _ _ us hl => match us, hl with | [_], _ => rfl
    g__law_echo := PySem.W.mg_of X G a1__law_echo
    a__law_line_key := a__law_line_key
    fd__law_line_key := _
    F__law_line_key := fund_mk l1__law_line_key c1__law_line_key k1__law_line_key
    b__law_line_key := (fund_mk l1__law_line_key c1__law_line_key k1__law_line_key).bindsN fun _ _ _ _ _ _ us hl => match us, hl with | [_, _], _ => rfl
    g__law_line_key := PySem.W.mg_of X G a1__law_line_key
    a__law_shared := a__law_shared
    fd__law_shared := _
    F__law_shared := fund_mk l1__law_shared c1__law_shared k1__law_shared
    b__law_shared := (fund_mk l1__law_shared c1__law_shared k1__law_shared).bindsN fun _ _ _ _ _ _ us hl => match us, hl with | [_, _, _, _], _ => rfl
    g__law_shared := PySem.W.mg_of X G a1__law_shared
    a__law_echoed := a__law_echoed
    fd__law_echoed := _
    F__law_echoed := fund_mk l1__law_echoed c1__law_echoed k1__law_echoed
    b__law_echoed := (fund_mk l1__law_echoed c1__law_echoed k1__law_echoed).bindsN fun _ _ _ _ _ _ us hl => match us, hl with | [_], _ => rfl
    g__law_echoed := PySem.W.mg_of X G a1__law_echoed
    a__law_pool := a__law_pool
    fd__law_pool := _
    F__law_pool := fund_mk l1__law_pool c1__law_pool k1__law_pool
    b__law_pool := (fund_mk l1__law_pool c1__law_pool k1__law_pool).bindsN fun _ _ _ _ _ _ us hl => match us, hl with | [_, _], _ => rfl
    g__law_pool := PySem.W.mg_of X G a1__law_pool
    a__law_three := a__law_three
    fd__law_three := _
    F__law_three := fund_mk l1__law_three c1__law_three k1__law_three
    b__law_three := (fund_mk l1__law_three c1__law_three k1__law_three).bindsN fun _ _ _ _ _ _ us hl => match us, hl with | [_, _], _ => rfl
    g__law_three := PySem.W.mg_of X G a1__law_three
    a_law := a_law
    fd_law := _
    F_law := fund_mk l1_law c1_law k1_law
    b_law := (fund_mk l1_law c1_law k1_law).bindsN fun _ _ _ _ _ _ us hl => match us, hl with | [_], _ => rfl
    g_law := PySem.W.mg_of X G a1_law
    A_Glue := A_Glue
    g_Glue := PySem.W.mg_of X G aC_Glue
    c_Glue := cl_of X G aC_Glue
    cl_Glue := ⟨p1_Glue, p2_Glue, p3_Glue, p4_Glue⟩
    mk_Glue := ⟨m1_Glue, a1_Glue_init, i1_Glue_init, m2_Glue⟩
    A_Measure := A_Measure
    g_Measure := PySem.W.mg_of X G aC_Measure
    c_Measure := cl_of X G aC_Measure
    cl_Measure := ⟨p1_Measure, p2_Measure, p3_Measure, p4_Measure⟩
    mk_Measure := ⟨m1_Measure, a1_Measure_init, i1_Measure_init, m2_Measure⟩
    bk_Measure := bk
    sm_Measure_of := ⟨⟨_, _, _, s1_Measure_of, s2_Measure_of, s3_Measure_of⟩, s4_Measure_of, k1_Measure_of⟩
    oc_Glue_add := ⟨o1_Glue_add, a1_Glue_add, i1_Glue_add, ⟨p1_Glue, p2_Glue, p3_Glue, p4_Glue⟩⟩
    oc_Glue_sub := ⟨o1_Glue_sub, a1_Glue_sub, i1_Glue_sub, ⟨p1_Glue, p2_Glue, p3_Glue, p4_Glue⟩⟩
    f_align := all_cons (by rw [← cl_of X G aC_Measure]; exact ⟨⟨p1_Measure, p2_Measure, p3_Measure, p4_Measure⟩, n1_align_Measure⟩) (all_nil)
    f_hyphen := all_cons (by rw [← cl_of X G aC_Measure]; exact ⟨⟨p1_Measure, p2_Measure, p3_Measure, p4_Measure⟩, n1_hyphen_Measure⟩) (all_nil)
    f_indent := all_cons (by rw [← cl_of X G aC_Measure]; exact ⟨⟨p1_Measure, p2_Measure, p3_Measure, p4_Measure⟩, n1_indent_Measure⟩) (all_nil)
    f_loose := all_cons (by rw [← cl_of X G aC_Measure]; exact ⟨⟨p1_Measure, p2_Measure, p3_Measure, p4_Measure⟩, n1_loose_Measure⟩) (all_nil)
    f_river := all_cons (by rw [← cl_of X G aC_Measure]; exact ⟨⟨p1_Measure, p2_Measure, p3_Measure, p4_Measure⟩, n1_river_Measure⟩) (all_nil)
    f_shrink := all_cons (by rw [← cl_of X G aC_Glue]; exact ⟨⟨p1_Glue, p2_Glue, p3_Glue, p4_Glue⟩, n1_shrink_Glue⟩) (all_nil)
    f_stretch := all_cons (by rw [← cl_of X G aC_Glue]; exact ⟨⟨p1_Glue, p2_Glue, p3_Glue, p4_Glue⟩, n1_stretch_Glue⟩) (all_nil)
    f_twin := all_cons (by rw [← cl_of X G aC_Measure]; exact ⟨⟨p1_Measure, p2_Measure, p3_Measure, p4_Measure⟩, n1_twin_Measure⟩) (all_nil)
    f_width := all_cons (by rw [← cl_of X G aC_Glue]; exact ⟨⟨p1_Glue, p2_Glue, p3_Glue, p4_Glue⟩, n1_width_Glue⟩) (all_cons (by rw [← cl_of X G aC_Measure]; exact ⟨⟨p1_Measure, p2_Measure, p3_Measure, p4_Measure⟩, n1_width_Measure⟩) (all_nil))
    it_Glue := all_cons e1_Glue (all_cons e2_Glue all_nil)
    io_Glue := all_cons (by rw [← cl_of X G aC_Glue]; exact ⟨⟨⟨p1_Glue, p2_Glue, p3_Glue, p4_Glue⟩, e4_Glue, e5_Glue, e6_Glue, e7_Glue⟩, e3_Glue⟩) all_nil
    z_abs := PySem.W.mg_none_of X G z1_abs
    z_bool := PySem.W.mg_none_of X G z1_bool
    z_int := PySem.W.mg_none_of X G z1_int
    z_isinstance := PySem.W.mg_none_of X G z1_isinstance
    z_len := PySem.W.mg_none_of X G z1_len
    z_max := PySem.W.mg_none_of X G z1_max
    z_min := PySem.W.mg_none_of X G z1_min
    z_range := PySem.W.mg_none_of X G z1_range
    z_sum := PySem.W.mg_none_of X G z1_sum
    z_tuple := PySem.W.mg_none_of X G z1_tuple
  }⟩
theorem law_fin {P : Program} {w : World} {K : PySem.W.Frag} {mg : Str → Option Value} {ok : List Int → Prop} (T : Txt K mg) {fa : Addr} (hmg : mg "law" = some (.ref fa))
    (hl : ∀ ns, ok ns → ∃ hp, run_law [.scr (ns.map .int)] [] = .ok (.bl true) hp) : ∃ fd : FuncData, (∀ (s : Shared) (u : Value), BindsTo s fd ⟨[u], []⟩ [("script", u)]) ∧ ∀ base : Heap, K.In base → base.Ns mainGlobals mg → FnOk P w K mg base (L2.CX P w) 12 fa fd ["script"] (spLaw K ok) := by
  have e := hmg.symm.trans T.g_law
  cases e
  exact ⟨T.fd_law, fun s u => T.F_law.bindsA (ps := ["script"]) (fun _ _ _ _ _ _ us hl => match us, hl with | [_], _ => rfl) s [u] rfl, fun base _ _ => law_imp (ok_law T) hl⟩
end DL
/-! loops, the heap's growth, sums -/
namespace DL
open PySem PySem.Spec PyProof.Rows L2
theorem forGo_rng {g : MT} {b : MS} {lo : Int} {n : Nat} (I : Nat → En → DH → Prop)
    (hs : ∀ i env hp, i < n → I i env hp → ∃ env1 hp1 env' hp', g (.int (lo + (i : Int))) env hp = .ok env1 hp1 ∧ b env1 hp1 = .nx env' hp' ∧ I (i + 1) env' hp') :
    ∀ f i env hp, i + f = n + 1 → i ≤ n → I i env hp → ∃ env' hp', forGo (.rng lo n) g b f i env hp = .nx env' hp' ∧ I n env' hp'
  | 0, i, env, hp, e, hi, h => by omega
  | f + 1, i, env, hp, e, hi, h => by
    unfold forGo
    by_cases hn : i < n
    · obtain ⟨env1, hp1, env', hp', e1, e2, h2⟩ := hs i env hp hn h
      have : Src.at (.rng lo n) hp i = some (some (.int (lo + (i : Int)))) := by simp [Src.at, hn]
      simp only [this, e1, R.st_ok, e2]
      exact forGo_rng I hs f (i + 1) env' hp' (by omega) (by omega) h2
    · have : Src.at (.rng lo n) hp i = some none := by simp [Src.at, hn]
      simp only [this]
      obtain rfl : i = n := by omega
      exact ⟨env, hp, rfl, h⟩
theorem for_rng {j : Nat} {b : MS} {lo : Int} {n : Nat} {env : En} {hp : DH} (I : Nat → En → DH → Prop) (h0 : I 0 env hp)
    (hs : ∀ i env hp, i < n → I i env hp → ∃ env' hp', b (env.set j (some (.int (lo + (i : Int))))) hp = .nx env' hp' ∧ I (i + 1) env' hp') :
    ∃ env' hp', kFor (gN j) b env (.rng lo n) hp = .nx env' hp' ∧ I n env' hp' :=
  forGo_rng I (fun i env hp hi h => let ⟨env', hp', e, h2⟩ := hs i env hp hi h; ⟨_, _, env', hp', rfl, e, h2⟩) (n + 1) 0 env hp (by omega) (by omega) h0
theorem forGo_ds {g : MT} {b : MS} {src : Src} {ds : List D} (I : Nat → En → DH → Prop) (hat : ∀ i env hp, I i env hp → src.at hp i = some ds[i]?)
    (hs : ∀ i d env hp, ds[i]? = some d → I i env hp → ∃ env1 hp1 env' hp', g d env hp = .ok env1 hp1 ∧ b env1 hp1 = .nx env' hp' ∧ I (i + 1) env' hp') :
    ∀ f i env hp, i + f = ds.length + 1 → i ≤ ds.length → I i env hp → ∃ env' hp', forGo src g b f i env hp = .nx env' hp' ∧ I ds.length env' hp'
  | 0, i, env, hp, e, hi, h => by omega
  | f + 1, i, env, hp, e, hi, h => by
    unfold forGo
    rcases hd : ds[i]? with _ | d
    · simp only [hat i env hp h, hd]
      have := List.getElem?_eq_none_iff.mp hd
      obtain rfl : i = ds.length := by omega
      exact ⟨env, hp, rfl, h⟩
    · obtain ⟨env1, hp1, env', hp', e1, e2, h2⟩ := hs i d env hp hd h
      have := (List.getElem?_eq_some_iff.mp hd).1
      simp only [hat i env hp h, hd, e1, R.st_ok, e2]
      exact forGo_ds I hat hs f (i + 1) env' hp' (by omega) (by omega) h2
theorem for_its {j : Nat} {b : MS} {ds : List D} {env : En} {hp : DH} (I : Nat → En → DH → Prop) (h0 : I 0 env hp)
    (hs : ∀ i d env hp, ds[i]? = some d → I i env hp → ∃ env' hp', b (env.set j (some d)) hp = .nx env' hp' ∧ I (i + 1) env' hp') :
    ∃ env' hp', kFor (gN j) b env (.its ds) hp = .nx env' hp' ∧ I ds.length env' hp' :=
  forGo_ds I (fun _ _ _ _ => rfl) (fun i d env hp hi h => let ⟨env', hp', e, h2⟩ := hs i d env hp hi h; ⟨_, _, env', hp', rfl, e, h2⟩) (ds.length + 1) 0 env hp (by omega) (by omega) h0
theorem for_lst {j a : Nat} {b : MS} {ds : List D} {env : En} {hp : DH} (I : Nat → En → DH → Prop) (h0 : I 0 env hp) (ha : ∀ i env hp, I i env hp → hp[a]? = some (.lst ds))
    (hs : ∀ i d env hp, ds[i]? = some d → I i env hp → ∃ env' hp', b (env.set j (some d)) hp = .nx env' hp' ∧ I (i + 1) env' hp') :
    ∃ env' hp', kFor (gN j) b env (.lst a) hp = .nx env' hp' ∧ I ds.length env' hp' := by
  have : kFor (gN j) b env (.lst a) hp = forGo (.lst a) (gN j) b (ds.length + 1) 0 env hp := by unfold kFor Src.size; simp only [ha 0 env hp h0]
  rw [this]
  exact forGo_ds I (fun i env hp h => by unfold Src.at; simp only [ha i env hp h]) (fun i d env hp hi h => let ⟨env', hp', e, h2⟩ := hs i d env hp hi h; ⟨_, _, env', hp', rfl, e, h2⟩) (ds.length + 1) 0 env hp (by omega) (by omega) h0
def kComp (own : List Nat) (g : MT) (t : MG Bool) (e : ME) (env : En) : Src → DH → R D := fun src hp => (compGo src g t e (src.size hp + 1) 0 [] (wipeE env own) hp).bind fun acc hp => .ok (.ref hp.length) (hp ++ [.lst acc])
theorem e_comp {it own g t e} {env : En} {hp : DH} : mComp it own g t e env hp = (it env hp).bind (kComp own g t e env) := (rfl)
theorem compGo_ds {j : Nat} {t : MG Bool} {e : ME} {src : Src} {ds : List D} {env : En} {hp : DH} (T : D → Bool) (F : D → D) (hat : ∀ i, src.at hp i = some ds[i]?)
    (ht : ∀ d ∈ ds, t (env.set j (some d)) hp = .ok (T d) hp) (he : ∀ d ∈ ds, T d = true → e (env.set j (some d)) hp = .ok (F d) hp) (hl : ds.length ≤ sizeLine) :
    ∀ f i acc, i + f = ds.length + 1 → i ≤ ds.length → acc.length ≤ i → compGo src (gN j) t e f i acc env hp = .ok (acc ++ ((ds.drop i).filter T).map F) hp
  | 0, i, acc, h1, h2, h3 => by omega
  | f + 1, i, acc, h1, h2, h3 => by
    unfold compGo
    rcases hd : ds[i]? with _ | d
    · simp only [hat, hd]
      have := List.getElem?_eq_none_iff.mp hd
      rw [List.drop_eq_nil_of_le (by omega)]; simp
    · have hi := (List.getElem?_eq_some_iff.mp hd).1
      have hm : d ∈ ds := List.mem_of_getElem? hd
      have hdr : ds.drop i = d :: ds.drop (i + 1) := by
        rw [List.drop_eq_getElem_cons hi]; congr 1; exact (List.getElem?_eq_some_iff.mp hd).2
      simp only [hat, hd, gN, R.nx_ok, R.bind_ok, ht d hm]
      by_cases hT : T d = true
      · simp only [hT, if_true, he d hm hT, R.nx_ok, R.bind_ok]
        rw [if_pos (by omega), compGo_ds T F hat ht he hl f (i + 1) (acc ++ [F d]) (by omega) (by omega) (by simp; omega), hdr]
        simp [hT]
      · simp only [hT, if_false, Bool.false_eq_true]
        rw [compGo_ds T F hat ht he hl f (i + 1) acc (by omega) (by omega) (by omega), hdr]
        simp [hT]
theorem comp_its {j : Nat} {own : List Nat} {t : MG Bool} {e : ME} {ds : List D} {env : En} {hp : DH} (T : D → Bool) (F : D → D)
    (ht : ∀ d ∈ ds, t ((wipeE env own).set j (some d)) hp = .ok (T d) hp) (he : ∀ d ∈ ds, T d = true → e ((wipeE env own).set j (some d)) hp = .ok (F d) hp) (hl : ds.length ≤ sizeLine) :
    kComp own (gN j) t e env (.its ds) hp = .ok (.ref hp.length) (hp ++ [.lst ((ds.filter T).map F)]) := by
  unfold kComp
  simp only [Src.size]
  rw [compGo_ds (src := .its ds) (ds := ds) T F (fun _ => rfl) ht he hl (ds.length + 1) 0 [] (by omega) (by omega) (by simp)]
  simp
/-! the heap grows -/
def Px (hp hp' : DH) : Prop := ∃ e, hp' = hp ++ e
theorem Px.refl (hp : DH) : Px hp hp := ⟨[], by simp⟩
theorem Px.trans {a b c : DH} (h : Px a b) (g : Px b c) : Px a c := by
  obtain ⟨x, rfl⟩ := h; obtain ⟨y, rfl⟩ := g
  exact ⟨x ++ y, by simp⟩
theorem Px.app (a e : DH) : Px a (a ++ e) := ⟨e, rfl⟩
theorem Px.get {a b : DH} (h : Px a b) {n : Nat} {o : DO} (e : a[n]? = some o) : b[n]? = some o := by
  obtain ⟨x, rfl⟩ := h; exact get_app e
theorem Px.le {a b : DH} (h : Px a b) : a.length ≤ b.length := by obtain ⟨x, rfl⟩ := h; simp
/-- all but p stay -/
def Gr (p : Nat) (hp hp' : DH) : Prop := hp.length ≤ hp'.length ∧ ∀ i, i < hp.length → i ≠ p → hp'[i]? = hp[i]?
theorem Gr.refl (p : Nat) (hp : DH) : Gr p hp hp := ⟨Nat.le_refl _, fun _ _ _ => rfl⟩
theorem Gr.trans {p : Nat} {a b c : DH} (h : Gr p a b) (g : Gr p b c) : Gr p a c := ⟨Nat.le_trans h.1 g.1, fun i hi hp => (g.2 i (Nat.lt_of_lt_of_le hi h.1) hp).trans (h.2 i hi hp)⟩
theorem Px.gr {p : Nat} {a b : DH} (h : Px a b) : Gr p a b := by
  obtain ⟨x, rfl⟩ := h
  exact ⟨by simp, fun i hi _ => List.getElem?_append_left hi⟩
theorem Gr.set (p : Nat) (a : DH) (o : DO) : Gr p a (a.set p o) := ⟨by simp, fun i hi hp => by rw [List.getElem?_set_ne (Ne.symm hp)]⟩
theorem Gr.get {p : Nat} {a b : DH} (h : Gr p a b) {n : Nat} {o : DO} (e : a[n]? = some o) (hn : n ≠ p) : b[n]? = some o := (h.2 n (get_lt e) hn).trans e
theorem get_ne {hp : DH} {n p : Nat} {o o' : DO} (e : hp[n]? = some o) (hn : n ≠ p) : (hp.set p o')[n]? = some o := by rw [List.getElem?_set_ne (Ne.symm hn)]; exact e
theorem get_set2 {hp : DH} {n : Nat} {o : DO} (h : n < hp.length) : (hp.set n o)[n]? = some o := by rw [List.getElem?_set_self h]
theorem Gr.set_new {p n : Nat} {a b : DH} {o : DO} (h : Gr p a b) (hn : a.length ≤ n) : Gr p a (b.set n o) := ⟨by simpa using h.1, fun i hi hp => by rw [List.getElem?_set_ne (by omega)]; exact h.2 i hi hp⟩
theorem at_map {α : Type} {f : α → D} {l : List α} {z : Int} {d : α} (h : 0 ≤ z) (h2 : z < l.length) : atI (l.map f) z = some (f (l.getD z.toNat d)) := by
  obtain ⟨n, rfl⟩ := Int.eq_ofNat_of_zero_le h
  have hn : n < l.length := by omega
  rw [atN (by simpa using hn)]
  simp [List.getElem?_eq_getElem hn]
theorem getD_app {α : Type} {l : List α} {a d : α} {k : Nat} (h : k < l.length) : (l ++ [a]).getD k d = l.getD k d := by simp [List.getElem?_append_left h]
theorem getD_last {α : Type} {l : List α} {a d : α} : (l ++ [a]).getD l.length d = a := by simp
/-! sums -/
def S (f : Nat → Int) : Nat → Int
  | 0 => 0
  | n + 1 => S f n + f n
theorem S_congr {f g : Nat → Int} : ∀ {n : Nat}, (∀ i, i < n → f i = g i) → S f n = S g n
  | 0, _ => rfl
  | n + 1, h => by simp only [S]; rw [S_congr fun i hi => h i (by omega), h n (by omega)]
theorem S_nonneg {f : Nat → Int} {m : Nat} : ∀ {n : Nat}, m ≤ n → (∀ i, m ≤ i → i < n → 0 ≤ f i) → S f m ≤ S f n
  | 0, h, _ => by obtain rfl : m = 0 := by omega
                  exact Int.le_refl _
  | n + 1, h, hf => by
    by_cases e : m = n + 1
    · subst e; exact Int.le_refl _
    · have := S_nonneg (f := f) (n := n) (m := m) (by omega) fun i h1 h2 => hf i h1 (by omega)
      have := hf n (by omega) (by omega)
      simp only [S]; omega
theorem S_bound {f : Nat → Int} {B : Int} : ∀ {n : Nat}, (∀ i, i < n → -B ≤ f i ∧ f i ≤ B) → -(B * n) ≤ S f n ∧ S f n ≤ B * n
  | 0, _ => by simp [S]
  | n + 1, h => by
    have h1 := S_bound (n := n) fun i hi => h i (by omega)
    have h2 := h n (by omega)
    have h3 : B * ((n + 1 : Nat) : Int) = B * n + B := by rw [Int.natCast_add, Int.mul_add]; simp
    simp only [S]; rw [h3]; omega
theorem sum_take (ws : List Int) : ∀ {n : Nat}, n ≤ ws.length → (ws.take n).sum = S (fun i => ws.getD i 0) n
  | 0, _ => by simp [S]
  | n + 1, h => by
    rw [List.take_succ_eq_append_getElem (by omega), List.sum_append, sum_take ws (by omega)]
    simp [S, List.getElem?_eq_getElem (show n < ws.length by omega)]
theorem cut_map (ws : List Int) (lo hi : Option Int) : cutD (ws.map D.int) lo hi = ((ws.drop (HT.sIx ws.length 0 lo)).take (HT.sIx ws.length ws.length hi - HT.sIx ws.length 0 lo)).map D.int := by simp [cutD, List.map_drop, List.map_take]
theorem cut_sum (ws : List Int) {s e : Nat} (h : s ≤ e) (he : e ≤ ws.length) : ((ws.drop s).take (e - s)).sum = S (fun i => ws.getD i 0) e - S (fun i => ws.getD i 0) s := by
  have h1 := sum_take ws he
  have h2 := sum_take ws (Nat.le_trans h he)
  have h3 : (ws.take e) = ws.take s ++ (ws.drop s).take (e - s) := by rw [← List.take_add]; congr 1; omega
  rw [h3, List.sum_append] at h1
  omega
theorem e_sumcut {ws : List Int} {s e : Nat} {hp : DH} (h : s ≤ e) (he : e ≤ ws.length) : fSum [.tup (cutD (ws.map D.int) (some (s : Int)) (some (e : Int)))] hp = .ok (.int (S (fun i => ws.getD i 0) e - S (fun i => ws.getD i 0) s)) hp := by
  rw [cut_map, e_sumt, HT.sIx_nat, HT.sIx_nat, Nat.min_eq_left he, Nat.min_eq_left (Nat.le_trans h he), cut_sum ws h he]
end DL
/-! pools -/
namespace DL
open PySem PySem.Spec PyProof.Rows L2
structure Pool where
  cell : Int
  cnt : Int
  flag : Int
  s : Int
def Pool.D (q : Pool) : DO := .lst [.int q.cell, .int q.cnt, .int q.flag, .int q.s, .int 3]
structure Pool.OK (q : Pool) (c : Int) : Prop where
  a : 0 ≤ q.cell
  b : 0 ≤ q.cnt
  c : q.cnt ≤ c
  f : q.flag = 0 ∨ q.flag = 1
  s : 0 ≤ q.s
def PoolAt (hp : DH) (p : Nat) (c : Int) : Prop := ∃ q : Pool, hp[p]? = some q.D ∧ q.OK c
theorem PoolAt.lt {hp : DH} {p : Nat} {c : Int} (h : PoolAt hp p c) : p < hp.length := let ⟨_, e, _⟩ := h; get_lt e
theorem PoolAt.px {hp hp' : DH} {p : Nat} {c : Int} (h : PoolAt hp p c) (x : Px hp hp') : PoolAt hp' p c := let ⟨q, e, ok⟩ := h; ⟨q, x.get e, ok⟩
theorem PoolAt.app {hp e : DH} {p : Nat} {c : Int} (h : PoolAt hp p c) : PoolAt (hp ++ e) p c := h.px (Px.app _ _)
theorem PoolAt.le {hp : DH} {p : Nat} {c d : Int} (h : PoolAt hp p c) (x : c ≤ d) : PoolAt hp p d := let ⟨q, e, ok⟩ := h; ⟨q, e, ok.a, ok.b, Int.le_trans ok.c x, ok.f, ok.s⟩
theorem PoolAt.set {hp : DH} {p n : Nat} {c : Int} {o : DO} (h : PoolAt hp p c) (x : p ≠ n) : PoolAt (hp.set n o) p c := let ⟨q, e, ok⟩ := h; ⟨q, get_ne e x, ok⟩
theorem take_ok {hp : DH} {p : Nat} {c m : Int} (h : PoolAt hp p c) (hc : c ≤ 2 ^ 60) (hm : 1 ≤ m) (hm2 : m < 2 ^ 60) :
    ∃ (v : Int) (q : Pool), 0 ≤ v ∧ v < m ∧ q.OK (c + 1) ∧ run__law_take [.ref p, .int m] hp = .ok (.int v) (hp.set p q.D) := by
  obtain ⟨q, e, ok⟩ := h
  have hl := get_lt e
  have s2 : ∀ o, (hp.set p o)[p]? = some o := fun o => get_set2 hl
  have ss : ∀ o o', (hp.set p o).set p o' = hp.set p o' := fun o o' => by simp
  obtain ⟨cell, cnt, flag, s⟩ := q
  obtain ⟨h1, h2, h3, h4, h5⟩ := ok
  simp only at h1 h2 h3 h4 h5
  simp only [Pool.D] at e
  have m1 : 0 < m := by omega
  have m2 : m < 18446744073709551616 := by omega
  have m3 : -18446744073709551616 < cnt + 1 := by omega
  have m4 : cnt + 1 < 18446744073709551616 := by omega
  have m5 : 0 < cnt + 1 + 6 := by omega
  have m6 : cnt + 1 + 6 < 18446744073709551616 := by omega
  rw [ent__law_take]
  simp only [m__law_take, lp__law_take_0, e_var, e_vget, e_c, e_op, e_op1, e_un, e_nil, e_cons, e_cons1, e_cons2, e_a0, e_ka0, e_app, e_app1, e_app2, e_tup, kT1, kT2, kT3, kT4, kT5, kT7, e_lst, kL0, kL1, kL2, kL3, kL4, kL5, e_test, e_ktest, e_and, e_andT, e_andF, e_or, e_orT, e_orF, e_not, e_knot, e_if, e_ifT, e_ifF, e_andv, e_andvT, e_andvF, e_orv, e_orvT, e_orvF, e_notv, e_knotv, e_ch, e_ch1, e_ch2, e_ch3T, e_ch3F, e_cb, e_call, e_make, e_fld, e_kfld, e_setf, e_setf1, e_setf2, e_seq, e_next, e_break, e_cont, e_expr, e_nx, e_ret, e_rt, e_retn, e_ifs, e_ifsT, e_ifsF, e_set, e_kset, e_asg, e_kasg, e_as2, e_gn, e_gtp, e_gto, e_gs0, e_gs1, e_for, e_rng1, e_rng2, e_srca, e_srcr, e_srco, e_srct, e_srcs, e_nop, e_part, e_kpart, e_sl, e_sl1, e_sl2, e_dslt, e_bm, e_kbm, e_bmo, e_add, e_sub, e_own1, e_mull, e_mulr, e_div, e_mod, e_neg, e_lt, e_gt, e_le, e_ge, e_eq, e_ne, e_eqs, e_eqb, e_ixt, e_ixs, e_ixr, e_ixo, e_ixR, at0, at1, at2, at3, at4, at5, at6, e_int, e_intT, e_intF, e_abs, e_min, e_max, e_lent, e_lens, e_lenr, e_leno, e_sumt, e_sumr, e_sumo, e_ftup, e_tupo, e_apnd, e_clr, e_clro, e_gix, e_gi1, e_gi2, e_gi0, e_giB, e_tru, e_trub, e_isi, e_isir, fin_nx, fin_rt, fin_ex, b_bind, b_st, b_nx, b_thn, b_thr, b_thb, b_thc, List.getElem?_cons_zero, List.getElem?_cons_succ, List.set_cons_zero, List.set_cons_succ, decide_true, decide_false, Bool.not_true, Bool.not_false, List.cons_append, List.nil_append, List.length_map, eq_self, Int.reduceLT, Int.reduceLE, and_self, and_true, true_and, e_comp, get_last, e, s2, ss]
  rcases h4 with h4 | h4
  · subst h4
    simp only [e_var, e_vget, e_c, e_op, e_op1, e_un, e_nil, e_cons, e_cons1, e_cons2, e_a0, e_ka0, e_app, e_app1, e_app2, e_tup, kT1, kT2, kT3, kT4, kT5, kT7, e_lst, kL0, kL1, kL2, kL3, kL4, kL5, e_test, e_ktest, e_and, e_andT, e_andF, e_or, e_orT, e_orF, e_not, e_knot, e_if, e_ifT, e_ifF, e_andv, e_andvT, e_andvF, e_orv, e_orvT, e_orvF, e_notv, e_knotv, e_ch, e_ch1, e_ch2, e_ch3T, e_ch3F, e_cb, e_call, e_make, e_fld, e_kfld, e_setf, e_setf1, e_setf2, e_seq, e_next, e_break, e_cont, e_expr, e_nx, e_ret, e_rt, e_retn, e_ifs, e_ifsT, e_ifsF, e_set, e_kset, e_asg, e_kasg, e_as2, e_gn, e_gtp, e_gto, e_gs0, e_gs1, e_for, e_rng1, e_rng2, e_srca, e_srcr, e_srco, e_srct, e_srcs, e_nop, e_part, e_kpart, e_sl, e_sl1, e_sl2, e_dslt, e_bm, e_kbm, e_bmo, e_add, e_sub, e_own1, e_mull, e_mulr, e_div, e_mod, e_neg, e_lt, e_gt, e_le, e_ge, e_eq, e_ne, e_eqs, e_eqb, e_ixt, e_ixs, e_ixr, e_ixo, e_ixR, at0, at1, at2, at3, at4, at5, at6, e_int, e_intT, e_intF, e_abs, e_min, e_max, e_lent, e_lens, e_lenr, e_leno, e_sumt, e_sumr, e_sumo, e_ftup, e_tupo, e_apnd, e_clr, e_clro, e_gix, e_gi1, e_gi2, e_gi0, e_giB, e_tru, e_trub, e_isi, e_isir, fin_nx, fin_rt, fin_ex, b_bind, b_st, b_nx, b_thn, b_thr, b_thb, b_thc, List.getElem?_cons_zero, List.getElem?_cons_succ, List.set_cons_zero, List.set_cons_succ, decide_true, decide_false, Bool.not_true, Bool.not_false, List.cons_append, List.nil_append, List.length_map, eq_self, Int.reduceLT, Int.reduceLE, and_self, and_true, true_and, e_comp, get_last, show decide ((0:Int) = 1) = false from rfl, s2, m1, m2, m3, m4, m5, m6]
    exact ⟨_, ⟨cell, cnt + 1, 0, s⟩, Int.emod_nonneg _ (by omega), Int.emod_lt_of_pos _ m1, ⟨h1, by simp only; omega, by simp only; omega, .inl rfl, h5⟩, rfl⟩
  · subst h4
    simp only [e_var, e_vget, e_c, e_op, e_op1, e_un, e_nil, e_cons, e_cons1, e_cons2, e_a0, e_ka0, e_app, e_app1, e_app2, e_tup, kT1, kT2, kT3, kT4, kT5, kT7, e_lst, kL0, kL1, kL2, kL3, kL4, kL5, e_test, e_ktest, e_and, e_andT, e_andF, e_or, e_orT, e_orF, e_not, e_knot, e_if, e_ifT, e_ifF, e_andv, e_andvT, e_andvF, e_orv, e_orvT, e_orvF, e_notv, e_knotv, e_ch, e_ch1, e_ch2, e_ch3T, e_ch3F, e_cb, e_call, e_make, e_fld, e_kfld, e_setf, e_setf1, e_setf2, e_seq, e_next, e_break, e_cont, e_expr, e_nx, e_ret, e_rt, e_retn, e_ifs, e_ifsT, e_ifsF, e_set, e_kset, e_asg, e_kasg, e_as2, e_gn, e_gtp, e_gto, e_gs0, e_gs1, e_for, e_rng1, e_rng2, e_srca, e_srcr, e_srco, e_srct, e_srcs, e_nop, e_part, e_kpart, e_sl, e_sl1, e_sl2, e_dslt, e_bm, e_kbm, e_bmo, e_add, e_sub, e_own1, e_mull, e_mulr, e_div, e_mod, e_neg, e_lt, e_gt, e_le, e_ge, e_eq, e_ne, e_eqs, e_eqb, e_ixt, e_ixs, e_ixr, e_ixo, e_ixR, at0, at1, at2, at3, at4, at5, at6, e_int, e_intT, e_intF, e_abs, e_min, e_max, e_lent, e_lens, e_lenr, e_leno, e_sumt, e_sumr, e_sumo, e_ftup, e_tupo, e_apnd, e_clr, e_clro, e_gix, e_gi1, e_gi2, e_gi0, e_giB, e_tru, e_trub, e_isi, e_isir, fin_nx, fin_rt, fin_ex, b_bind, b_st, b_nx, b_thn, b_thr, b_thb, b_thc, List.getElem?_cons_zero, List.getElem?_cons_succ, List.set_cons_zero, List.set_cons_succ, decide_true, decide_false, Bool.not_true, Bool.not_false, List.cons_append, List.nil_append, List.length_map, eq_self, Int.reduceLT, Int.reduceLE, and_self, and_true, true_and, e_comp, get_last, show decide ((1:Int) = 1) = true from rfl, s2, ss, m1, m2, m3, m4]
    exact ⟨_, ⟨cell / m, cnt + 1, 1, s⟩, Int.emod_nonneg _ (by omega), Int.emod_lt_of_pos _ m1, ⟨Int.ediv_nonneg h1 (by omega), by simp only; omega, by simp only; omega, .inr rfl, h5⟩, rfl⟩
/-- one take: the value, the heap after it -/
theorem take_go {hp : DH} {p : Nat} {c m : Int} (h : PoolAt hp p c) (hc : c ≤ 2 ^ 60) (hm : 1 ≤ m) (hm2 : m < 2 ^ 60) :
    ∃ (v : Int) (hp' : DH), run__law_take [.ref p, .int m] hp = .ok (.int v) hp' ∧ 0 ≤ v ∧ v < m ∧ PoolAt hp' p (c + 1) ∧ Gr p hp hp' ∧ hp'.length = hp.length := by
  obtain ⟨v, q, h1, h2, h3, h4⟩ := take_ok h hc hm hm2
  exact ⟨v, _, h4, h1, h2, ⟨q, get_set2 h.lt, h3⟩, Gr.set _ _ _, by simp⟩
theorem pool_go {hp : DH} {ns : List Int} {i : Nat} (hn : ns.length ≤ 63) (hi : i ≤ 10) :
    ∃ hp', run__law_pool [.scr (ns.map .int), .int (i : Int)] hp = .ok (.ref hp.length) hp' ∧ PoolAt hp' hp.length 0 ∧ Px hp hp' := by
  rw [ent__law_pool]
  have hpow : ∀ hp : DH, dPow (.int 10) (.int 18) hp = .ok (.int 1000000000000000000) hp := fun hp => by
    unfold dPow; simp only; rw [if_pos (by decide)]; rfl
  simp only [m__law_pool, lp__law_pool_0, e_var, e_vget, e_c, e_op, e_op1, e_un, e_nil, e_cons, e_cons1, e_cons2, e_a0, e_ka0, e_app, e_app1, e_app2, e_tup, kT1, kT2, kT3, kT4, kT5, kT7, e_lst, kL0, kL1, kL2, kL3, kL4, kL5, e_test, e_ktest, e_and, e_andT, e_andF, e_or, e_orT, e_orF, e_not, e_knot, e_if, e_ifT, e_ifF, e_andv, e_andvT, e_andvF, e_orv, e_orvT, e_orvF, e_notv, e_knotv, e_ch, e_ch1, e_ch2, e_ch3T, e_ch3F, e_cb, e_call, e_make, e_fld, e_kfld, e_setf, e_setf1, e_setf2, e_seq, e_next, e_break, e_cont, e_expr, e_nx, e_ret, e_rt, e_retn, e_ifs, e_ifsT, e_ifsF, e_set, e_kset, e_asg, e_kasg, e_as2, e_gn, e_gtp, e_gto, e_gs0, e_gs1, e_for, e_rng1, e_rng2, e_srca, e_srcr, e_srco, e_srct, e_srcs, e_nop, e_part, e_kpart, e_sl, e_sl1, e_sl2, e_dslt, e_bm, e_kbm, e_bmo, e_add, e_sub, e_own1, e_mull, e_mulr, e_div, e_mod, e_neg, e_lt, e_gt, e_le, e_ge, e_eq, e_ne, e_eqs, e_eqb, e_ixt, e_ixs, e_ixr, e_ixo, e_ixR, at0, at1, at2, at3, at4, at5, at6, e_int, e_intT, e_intF, e_abs, e_min, e_max, e_lent, e_lens, e_lenr, e_leno, e_sumt, e_sumr, e_sumo, e_ftup, e_tupo, e_apnd, e_clr, e_clro, e_gix, e_gi1, e_gi2, e_gi0, e_giB, e_tru, e_trub, e_isi, e_isir, fin_nx, fin_rt, fin_ex, b_bind, b_st, b_nx, b_thn, b_thr, b_thb, b_thc, List.getElem?_cons_zero, List.getElem?_cons_succ, List.set_cons_zero, List.set_cons_succ, decide_true, decide_false, Bool.not_true, Bool.not_false, List.cons_append, List.nil_append, List.length_map, eq_self, Int.reduceLT, Int.reduceLE, and_self, and_true, true_and, e_comp, get_last, List.length_map, hpow]
  have fin : ∀ (x : Int), 0 ≤ x → ∃ hp', ((R.ok (D.bl (decide (1000000000000000000 ≤ x))) hp).bind (kCons1 mNil ([some (.scr (ns.map .int)), some (.int (i : Int)), some (.int x)]))).bind fInt = .ok (.int hp') hp ∧ (hp' = 0 ∨ hp' = 1) := by
    intro x hx
    by_cases h : 1000000000000000000 ≤ x
    · exact ⟨1, by simp only [h, e_var, e_vget, e_c, e_op, e_op1, e_un, e_nil, e_cons, e_cons1, e_cons2, e_a0, e_ka0, e_app, e_app1, e_app2, e_tup, kT1, kT2, kT3, kT4, kT5, kT7, e_lst, kL0, kL1, kL2, kL3, kL4, kL5, e_test, e_ktest, e_and, e_andT, e_andF, e_or, e_orT, e_orF, e_not, e_knot, e_if, e_ifT, e_ifF, e_andv, e_andvT, e_andvF, e_orv, e_orvT, e_orvF, e_notv, e_knotv, e_ch, e_ch1, e_ch2, e_ch3T, e_ch3F, e_cb, e_call, e_make, e_fld, e_kfld, e_setf, e_setf1, e_setf2, e_seq, e_next, e_break, e_cont, e_expr, e_nx, e_ret, e_rt, e_retn, e_ifs, e_ifsT, e_ifsF, e_set, e_kset, e_asg, e_kasg, e_as2, e_gn, e_gtp, e_gto, e_gs0, e_gs1, e_for, e_rng1, e_rng2, e_srca, e_srcr, e_srco, e_srct, e_srcs, e_nop, e_part, e_kpart, e_sl, e_sl1, e_sl2, e_dslt, e_bm, e_kbm, e_bmo, e_add, e_sub, e_own1, e_mull, e_mulr, e_div, e_mod, e_neg, e_lt, e_gt, e_le, e_ge, e_eq, e_ne, e_eqs, e_eqb, e_ixt, e_ixs, e_ixr, e_ixo, e_ixR, at0, at1, at2, at3, at4, at5, at6, e_int, e_intT, e_intF, e_abs, e_min, e_max, e_lent, e_lens, e_lenr, e_leno, e_sumt, e_sumr, e_sumo, e_ftup, e_tupo, e_apnd, e_clr, e_clro, e_gix, e_gi1, e_gi2, e_gi0, e_giB, e_tru, e_trub, e_isi, e_isir, fin_nx, fin_rt, fin_ex, b_bind, b_st, b_nx, b_thn, b_thr, b_thb, b_thc, List.getElem?_cons_zero, List.getElem?_cons_succ, List.set_cons_zero, List.set_cons_succ, decide_true, decide_false, Bool.not_true, Bool.not_false, List.cons_append, List.nil_append, List.length_map, eq_self, Int.reduceLT, Int.reduceLE, and_self, and_true, true_and, e_comp, get_last], .inr rfl⟩
    · exact ⟨0, by simp only [h, e_var, e_vget, e_c, e_op, e_op1, e_un, e_nil, e_cons, e_cons1, e_cons2, e_a0, e_ka0, e_app, e_app1, e_app2, e_tup, kT1, kT2, kT3, kT4, kT5, kT7, e_lst, kL0, kL1, kL2, kL3, kL4, kL5, e_test, e_ktest, e_and, e_andT, e_andF, e_or, e_orT, e_orF, e_not, e_knot, e_if, e_ifT, e_ifF, e_andv, e_andvT, e_andvF, e_orv, e_orvT, e_orvF, e_notv, e_knotv, e_ch, e_ch1, e_ch2, e_ch3T, e_ch3F, e_cb, e_call, e_make, e_fld, e_kfld, e_setf, e_setf1, e_setf2, e_seq, e_next, e_break, e_cont, e_expr, e_nx, e_ret, e_rt, e_retn, e_ifs, e_ifsT, e_ifsF, e_set, e_kset, e_asg, e_kasg, e_as2, e_gn, e_gtp, e_gto, e_gs0, e_gs1, e_for, e_rng1, e_rng2, e_srca, e_srcr, e_srco, e_srct, e_srcs, e_nop, e_part, e_kpart, e_sl, e_sl1, e_sl2, e_dslt, e_bm, e_kbm, e_bmo, e_add, e_sub, e_own1, e_mull, e_mulr, e_div, e_mod, e_neg, e_lt, e_gt, e_le, e_ge, e_eq, e_ne, e_eqs, e_eqb, e_ixt, e_ixs, e_ixr, e_ixo, e_ixR, at0, at1, at2, at3, at4, at5, at6, e_int, e_intT, e_intF, e_abs, e_min, e_max, e_lent, e_lens, e_lenr, e_leno, e_sumt, e_sumr, e_sumo, e_ftup, e_tupo, e_apnd, e_clr, e_clro, e_gix, e_gi1, e_gi2, e_gi0, e_giB, e_tru, e_trub, e_isi, e_isir, fin_nx, fin_rt, fin_ex, b_bind, b_st, b_nx, b_thn, b_thr, b_thb, b_thc, List.getElem?_cons_zero, List.getElem?_cons_succ, List.set_cons_zero, List.set_cons_succ, decide_true, decide_false, Bool.not_true, Bool.not_false, List.cons_append, List.nil_append, List.length_map, eq_self, Int.reduceLT, Int.reduceLE, and_self, and_true, true_and, e_comp, get_last], .inl rfl⟩
  by_cases h : (i : Int) < (ns.length : Int)
  · have ha : atI (ns.map D.int) (i : Int) = some (.int ns[i]) := by
      rw [atN (by simp; omega)]; simp
    simp only [h, e_var, e_vget, e_c, e_op, e_op1, e_un, e_nil, e_cons, e_cons1, e_cons2, e_a0, e_ka0, e_app, e_app1, e_app2, e_tup, kT1, kT2, kT3, kT4, kT5, kT7, e_lst, kL0, kL1, kL2, kL3, kL4, kL5, e_test, e_ktest, e_and, e_andT, e_andF, e_or, e_orT, e_orF, e_not, e_knot, e_if, e_ifT, e_ifF, e_andv, e_andvT, e_andvF, e_orv, e_orvT, e_orvF, e_notv, e_knotv, e_ch, e_ch1, e_ch2, e_ch3T, e_ch3F, e_cb, e_call, e_make, e_fld, e_kfld, e_setf, e_setf1, e_setf2, e_seq, e_next, e_break, e_cont, e_expr, e_nx, e_ret, e_rt, e_retn, e_ifs, e_ifsT, e_ifsF, e_set, e_kset, e_asg, e_kasg, e_as2, e_gn, e_gtp, e_gto, e_gs0, e_gs1, e_for, e_rng1, e_rng2, e_srca, e_srcr, e_srco, e_srct, e_srcs, e_nop, e_part, e_kpart, e_sl, e_sl1, e_sl2, e_dslt, e_bm, e_kbm, e_bmo, e_add, e_sub, e_own1, e_mull, e_mulr, e_div, e_mod, e_neg, e_lt, e_gt, e_le, e_ge, e_eq, e_ne, e_eqs, e_eqb, e_ixt, e_ixs, e_ixr, e_ixo, e_ixR, at0, at1, at2, at3, at4, at5, at6, e_int, e_intT, e_intF, e_abs, e_min, e_max, e_lent, e_lens, e_lenr, e_leno, e_sumt, e_sumr, e_sumo, e_ftup, e_tupo, e_apnd, e_clr, e_clro, e_gix, e_gi1, e_gi2, e_gi0, e_giB, e_tru, e_trub, e_isi, e_isir, fin_nx, fin_rt, fin_ex, b_bind, b_st, b_nx, b_thn, b_thr, b_thb, b_thc, List.getElem?_cons_zero, List.getElem?_cons_succ, List.set_cons_zero, List.set_cons_succ, decide_true, decide_false, Bool.not_true, Bool.not_false, List.cons_append, List.nil_append, List.length_map, eq_self, Int.reduceLT, Int.reduceLE, and_self, and_true, true_and, e_comp, get_last, ha]
    have hx : (0:Int) ≤ if ns[i] < 0 then -ns[i] else ns[i] := by split <;> omega
    generalize (if ns[i] < 0 then -ns[i] else ns[i]) = x at hx ⊢
    obtain ⟨fl, e, hf⟩ := fin x hx
    simp only [e_var, e_vget, e_c, e_op, e_op1, e_un, e_nil, e_cons, e_cons1, e_cons2, e_a0, e_ka0, e_app, e_app1, e_app2, e_tup, kT1, kT2, kT3, kT4, kT5, kT7, e_lst, kL0, kL1, kL2, kL3, kL4, kL5, e_test, e_ktest, e_and, e_andT, e_andF, e_or, e_orT, e_orF, e_not, e_knot, e_if, e_ifT, e_ifF, e_andv, e_andvT, e_andvF, e_orv, e_orvT, e_orvF, e_notv, e_knotv, e_ch, e_ch1, e_ch2, e_ch3T, e_ch3F, e_cb, e_call, e_make, e_fld, e_kfld, e_setf, e_setf1, e_setf2, e_seq, e_next, e_break, e_cont, e_expr, e_nx, e_ret, e_rt, e_retn, e_ifs, e_ifsT, e_ifsF, e_set, e_kset, e_asg, e_kasg, e_as2, e_gn, e_gtp, e_gto, e_gs0, e_gs1, e_for, e_rng1, e_rng2, e_srca, e_srcr, e_srco, e_srct, e_srcs, e_nop, e_part, e_kpart, e_sl, e_sl1, e_sl2, e_dslt, e_bm, e_kbm, e_bmo, e_add, e_sub, e_own1, e_mull, e_mulr, e_div, e_mod, e_neg, e_lt, e_gt, e_le, e_ge, e_eq, e_ne, e_eqs, e_eqb, e_ixt, e_ixs, e_ixr, e_ixo, e_ixR, at0, at1, at2, at3, at4, at5, at6, e_int, e_intT, e_intF, e_abs, e_min, e_max, e_lent, e_lens, e_lenr, e_leno, e_sumt, e_sumr, e_sumo, e_ftup, e_tupo, e_apnd, e_clr, e_clro, e_gix, e_gi1, e_gi2, e_gi0, e_giB, e_tru, e_trub, e_isi, e_isir, fin_nx, fin_rt, fin_ex, b_bind, b_st, b_nx, b_thn, b_thr, b_thb, b_thc, List.getElem?_cons_zero, List.getElem?_cons_succ, List.set_cons_zero, List.set_cons_succ, decide_true, decide_false, Bool.not_true, Bool.not_false, List.cons_append, List.nil_append, List.length_map, eq_self, Int.reduceLT, Int.reduceLE, and_self, and_true, true_and, e_comp, get_last] at e
    simp only [e, e_var, e_vget, e_c, e_op, e_op1, e_un, e_nil, e_cons, e_cons1, e_cons2, e_a0, e_ka0, e_app, e_app1, e_app2, e_tup, kT1, kT2, kT3, kT4, kT5, kT7, e_lst, kL0, kL1, kL2, kL3, kL4, kL5, e_test, e_ktest, e_and, e_andT, e_andF, e_or, e_orT, e_orF, e_not, e_knot, e_if, e_ifT, e_ifF, e_andv, e_andvT, e_andvF, e_orv, e_orvT, e_orvF, e_notv, e_knotv, e_ch, e_ch1, e_ch2, e_ch3T, e_ch3F, e_cb, e_call, e_make, e_fld, e_kfld, e_setf, e_setf1, e_setf2, e_seq, e_next, e_break, e_cont, e_expr, e_nx, e_ret, e_rt, e_retn, e_ifs, e_ifsT, e_ifsF, e_set, e_kset, e_asg, e_kasg, e_as2, e_gn, e_gtp, e_gto, e_gs0, e_gs1, e_for, e_rng1, e_rng2, e_srca, e_srcr, e_srco, e_srct, e_srcs, e_nop, e_part, e_kpart, e_sl, e_sl1, e_sl2, e_dslt, e_bm, e_kbm, e_bmo, e_add, e_sub, e_own1, e_mull, e_mulr, e_div, e_mod, e_neg, e_lt, e_gt, e_le, e_ge, e_eq, e_ne, e_eqs, e_eqb, e_ixt, e_ixs, e_ixr, e_ixo, e_ixR, at0, at1, at2, at3, at4, at5, at6, e_int, e_intT, e_intF, e_abs, e_min, e_max, e_lent, e_lens, e_lenr, e_leno, e_sumt, e_sumr, e_sumo, e_ftup, e_tupo, e_apnd, e_clr, e_clro, e_gix, e_gi1, e_gi2, e_gi0, e_giB, e_tru, e_trub, e_isi, e_isir, fin_nx, fin_rt, fin_ex, b_bind, b_st, b_nx, b_thn, b_thr, b_thb, b_thc, List.getElem?_cons_zero, List.getElem?_cons_succ, List.set_cons_zero, List.set_cons_succ, decide_true, decide_false, Bool.not_true, Bool.not_false, List.cons_append, List.nil_append, List.length_map, eq_self, Int.reduceLT, Int.reduceLE, and_self, and_true, true_and, e_comp, get_last, hpow]
    exact ⟨_, rfl, ⟨⟨x, 0, fl, (x + (i : Int) * 7919) % 2147483647⟩, by simp [Pool.D], ⟨hx, by simp, by simp, hf, Int.emod_nonneg _ (by decide)⟩⟩, Px.app _ _⟩
  · simp only [h, e_var, e_vget, e_c, e_op, e_op1, e_un, e_nil, e_cons, e_cons1, e_cons2, e_a0, e_ka0, e_app, e_app1, e_app2, e_tup, kT1, kT2, kT3, kT4, kT5, kT7, e_lst, kL0, kL1, kL2, kL3, kL4, kL5, e_test, e_ktest, e_and, e_andT, e_andF, e_or, e_orT, e_orF, e_not, e_knot, e_if, e_ifT, e_ifF, e_andv, e_andvT, e_andvF, e_orv, e_orvT, e_orvF, e_notv, e_knotv, e_ch, e_ch1, e_ch2, e_ch3T, e_ch3F, e_cb, e_call, e_make, e_fld, e_kfld, e_setf, e_setf1, e_setf2, e_seq, e_next, e_break, e_cont, e_expr, e_nx, e_ret, e_rt, e_retn, e_ifs, e_ifsT, e_ifsF, e_set, e_kset, e_asg, e_kasg, e_as2, e_gn, e_gtp, e_gto, e_gs0, e_gs1, e_for, e_rng1, e_rng2, e_srca, e_srcr, e_srco, e_srct, e_srcs, e_nop, e_part, e_kpart, e_sl, e_sl1, e_sl2, e_dslt, e_bm, e_kbm, e_bmo, e_add, e_sub, e_own1, e_mull, e_mulr, e_div, e_mod, e_neg, e_lt, e_gt, e_le, e_ge, e_eq, e_ne, e_eqs, e_eqb, e_ixt, e_ixs, e_ixr, e_ixo, e_ixR, at0, at1, at2, at3, at4, at5, at6, e_int, e_intT, e_intF, e_abs, e_min, e_max, e_lent, e_lens, e_lenr, e_leno, e_sumt, e_sumr, e_sumo, e_ftup, e_tupo, e_apnd, e_clr, e_clro, e_gix, e_gi1, e_gi2, e_gi0, e_giB, e_tru, e_trub, e_isi, e_isir, fin_nx, fin_rt, fin_ex, b_bind, b_st, b_nx, b_thn, b_thr, b_thb, b_thc, List.getElem?_cons_zero, List.getElem?_cons_succ, List.set_cons_zero, List.set_cons_succ, decide_true, decide_false, Bool.not_true, Bool.not_false, List.cons_append, List.nil_append, List.length_map, eq_self, Int.reduceLT, Int.reduceLE, and_self, and_true, true_and, e_comp, get_last, hpow, show decide ((1000000000000000000 : Int) ≤ 0) = false from rfl]
    exact ⟨_, rfl, ⟨⟨0, 0, 0, (0 + (i : Int) * 7919) % 2147483647⟩, by simp only [Pool.D, get_last], ⟨by simp, by simp, by simp, .inl rfl, Int.emod_nonneg _ (by decide)⟩⟩, Px.app _ _⟩
end DL
/-! rows -/
namespace DL
open PySem PySem.Spec PyProof.Rows L2
inductive Jt where
  | gap (w m l : Int) | hyp (m b : Int)
instance : Inhabited Jt := ⟨.hyp 0 0⟩
def Jt.D : Jt → D
  | .gap w m l => .tup [.str "gap", .int w, .int m, .int l]
  | .hyp m b => .tup [.str "hyphen", .int m, .int b]
def Jt.w : Jt → Int | .gap w _ _ => w | .hyp _ b => -b
def Jt.m : Jt → Int | .gap _ m _ => m | .hyp _ _ => 0
def Jt.l : Jt → Int | .gap _ _ l => l | .hyp _ _ => 0
def Jt.h : Jt → Int | .gap _ _ _ => 0 | .hyp m _ => m
def Jt.OK (lim : Int) : Jt → Prop
  | .gap w m l => 1 ≤ w ∧ w ≤ 500 ∧ 0 ≤ m ∧ m ≤ 500 ∧ 0 ≤ l ∧ l < w
  | .hyp m b => 1 ≤ m ∧ m ≤ 500 ∧ 0 ≤ b ∧ b < lim
structure Row where
  ws : List Int
  js : List Jt
def Row.D (r : Row) : D := .tup [.tup (r.ws.map .int), .tup (r.js.map Jt.D)]
def Row.w (r : Row) (i : Nat) : Int := r.ws.getD i 0
def Row.j (r : Row) (i : Nat) : Jt := r.js.getD i default
structure Row.OK (r : Row) : Prop where
  len : r.js.length = r.ws.length - 1
  max : r.ws.length ≤ 40
  wp : ∀ i, i < r.ws.length → 1 ≤ r.w i ∧ r.w i ≤ 5000
  jp : ∀ i, i + 1 < r.ws.length → (r.j i).OK (min (r.w i) (r.w (i + 1)))
theorem joint_go {hp : DH} {p : Nat} {c below broad : Int} (h : PoolAt hp p c) (hc : c ≤ 2 ^ 55) (h1 : 1 ≤ below) (h2 : below < 2 ^ 60) (hb : broad = 0 ∨ broad = 1) :
    ∃ (j : Jt) (hp' : DH), run__law_joint [.ref p, .int below, .int broad] hp = .ok j.D hp' ∧ j.OK below ∧ PoolAt hp' p (c + 4) ∧ Gr p hp hp' := by
  obtain ⟨m1, i1, i1a, i1b⟩ : ∃ m, atI [D.int 9, D.int 500] broad = some (.int m) ∧ 1 ≤ m ∧ m ≤ 500 := by
    rcases hb with rfl | rfl
    · exact ⟨9, at0, by omega, by omega⟩
    · exact ⟨500, at1, by omega, by omega⟩
  obtain ⟨m2, i2, i2a, i2b⟩ : ∃ m, atI [D.int 12, D.int 500] broad = some (.int m) ∧ 1 ≤ m ∧ m ≤ 500 := by
    rcases hb with rfl | rfl
    · exact ⟨12, at0, by omega, by omega⟩
    · exact ⟨500, at1, by omega, by omega⟩
  obtain ⟨m3, i3, i3a, i3b⟩ : ∃ m, atI [D.int 12, D.int 501] broad = some (.int m) ∧ 1 ≤ m ∧ m ≤ 501 := by
    rcases hb with rfl | rfl
    · exact ⟨12, at0, by omega, by omega⟩
    · exact ⟨501, at1, by omega, by omega⟩
  rw [ent__law_joint]
  simp only [m__law_joint, lp__law_joint_0, e_var, e_vget, e_c, e_op, e_op1, e_un, e_nil, e_cons, e_cons1, e_cons2, e_a0, e_ka0, e_app, e_app1, e_app2, e_tup, kT1, kT2, kT3, kT4, kT5, kT7, e_lst, kL0, kL1, kL2, kL3, kL4, kL5, e_test, e_ktest, e_and, e_andT, e_andF, e_or, e_orT, e_orF, e_not, e_knot, e_if, e_ifT, e_ifF, e_andv, e_andvT, e_andvF, e_orv, e_orvT, e_orvF, e_notv, e_knotv, e_ch, e_ch1, e_ch2, e_ch3T, e_ch3F, e_cb, e_call, e_make, e_fld, e_kfld, e_setf, e_setf1, e_setf2, e_seq, e_next, e_break, e_cont, e_expr, e_nx, e_ret, e_rt, e_retn, e_ifs, e_ifsT, e_ifsF, e_set, e_kset, e_asg, e_kasg, e_as2, e_gn, e_gtp, e_gto, e_gs0, e_gs1, e_for, e_rng1, e_rng2, e_srca, e_srcr, e_srco, e_srct, e_srcs, e_nop, e_part, e_kpart, e_sl, e_sl1, e_sl2, e_dslt, e_bm, e_kbm, e_bmo, e_add, e_sub, e_own1, e_mull, e_mulr, e_div, e_mod, e_neg, e_lt, e_gt, e_le, e_ge, e_eq, e_ne, e_eqs, e_eqb, e_ixt, e_ixs, e_ixr, e_ixo, e_ixR, at0, at1, at2, at3, at4, at5, at6, e_int, e_intT, e_intF, e_abs, e_min, e_max, e_lent, e_lens, e_lenr, e_leno, e_sumt, e_sumr, e_sumo, e_ftup, e_tupo, e_apnd, e_clr, e_clro, e_gix, e_gi1, e_gi2, e_gi0, e_giB, e_tru, e_trub, e_isi, e_isir, fin_nx, fin_rt, fin_ex, b_bind, b_st, b_nx, b_thn, b_thr, b_thb, b_thc, List.getElem?_cons_zero, List.getElem?_cons_succ, List.set_cons_zero, List.set_cons_succ, decide_true, decide_false, Bool.not_true, Bool.not_false, List.cons_append, List.nil_append, List.length_map, eq_self, Int.reduceLT, Int.reduceLE, and_self, and_true, true_and, e_comp, get_last]
  obtain ⟨v, hp1, e1, v1, v2, p1, g1, l1⟩ := take_go h (m := 3) (by omega) (by omega) (by omega)
  simp only [e1, e_var, e_vget, e_c, e_op, e_op1, e_un, e_nil, e_cons, e_cons1, e_cons2, e_a0, e_ka0, e_app, e_app1, e_app2, e_tup, kT1, kT2, kT3, kT4, kT5, kT7, e_lst, kL0, kL1, kL2, kL3, kL4, kL5, e_test, e_ktest, e_and, e_andT, e_andF, e_or, e_orT, e_orF, e_not, e_knot, e_if, e_ifT, e_ifF, e_andv, e_andvT, e_andvF, e_orv, e_orvT, e_orvF, e_notv, e_knotv, e_ch, e_ch1, e_ch2, e_ch3T, e_ch3F, e_cb, e_call, e_make, e_fld, e_kfld, e_setf, e_setf1, e_setf2, e_seq, e_next, e_break, e_cont, e_expr, e_nx, e_ret, e_rt, e_retn, e_ifs, e_ifsT, e_ifsF, e_set, e_kset, e_asg, e_kasg, e_as2, e_gn, e_gtp, e_gto, e_gs0, e_gs1, e_for, e_rng1, e_rng2, e_srca, e_srcr, e_srco, e_srct, e_srcs, e_nop, e_part, e_kpart, e_sl, e_sl1, e_sl2, e_dslt, e_bm, e_kbm, e_bmo, e_add, e_sub, e_own1, e_mull, e_mulr, e_div, e_mod, e_neg, e_lt, e_gt, e_le, e_ge, e_eq, e_ne, e_eqs, e_eqb, e_ixt, e_ixs, e_ixr, e_ixo, e_ixR, at0, at1, at2, at3, at4, at5, at6, e_int, e_intT, e_intF, e_abs, e_min, e_max, e_lent, e_lens, e_lenr, e_leno, e_sumt, e_sumr, e_sumo, e_ftup, e_tupo, e_apnd, e_clr, e_clro, e_gix, e_gi1, e_gi2, e_gi0, e_giB, e_tru, e_trub, e_isi, e_isir, fin_nx, fin_rt, fin_ex, b_bind, b_st, b_nx, b_thn, b_thr, b_thb, b_thc, List.getElem?_cons_zero, List.getElem?_cons_succ, List.set_cons_zero, List.set_cons_succ, decide_true, decide_false, Bool.not_true, Bool.not_false, List.cons_append, List.nil_append, List.length_map, eq_self, Int.reduceLT, Int.reduceLE, and_self, and_true, true_and, e_comp, get_last]
  by_cases hv : v = 0
  · simp only [hv, e_var, e_vget, e_c, e_op, e_op1, e_un, e_nil, e_cons, e_cons1, e_cons2, e_a0, e_ka0, e_app, e_app1, e_app2, e_tup, kT1, kT2, kT3, kT4, kT5, kT7, e_lst, kL0, kL1, kL2, kL3, kL4, kL5, e_test, e_ktest, e_and, e_andT, e_andF, e_or, e_orT, e_orF, e_not, e_knot, e_if, e_ifT, e_ifF, e_andv, e_andvT, e_andvF, e_orv, e_orvT, e_orvF, e_notv, e_knotv, e_ch, e_ch1, e_ch2, e_ch3T, e_ch3F, e_cb, e_call, e_make, e_fld, e_kfld, e_setf, e_setf1, e_setf2, e_seq, e_next, e_break, e_cont, e_expr, e_nx, e_ret, e_rt, e_retn, e_ifs, e_ifsT, e_ifsF, e_set, e_kset, e_asg, e_kasg, e_as2, e_gn, e_gtp, e_gto, e_gs0, e_gs1, e_for, e_rng1, e_rng2, e_srca, e_srcr, e_srco, e_srct, e_srcs, e_nop, e_part, e_kpart, e_sl, e_sl1, e_sl2, e_dslt, e_bm, e_kbm, e_bmo, e_add, e_sub, e_own1, e_mull, e_mulr, e_div, e_mod, e_neg, e_lt, e_gt, e_le, e_ge, e_eq, e_ne, e_eqs, e_eqb, e_ixt, e_ixs, e_ixr, e_ixo, e_ixR, at0, at1, at2, at3, at4, at5, at6, e_int, e_intT, e_intF, e_abs, e_min, e_max, e_lent, e_lens, e_lenr, e_leno, e_sumt, e_sumr, e_sumo, e_ftup, e_tupo, e_apnd, e_clr, e_clro, e_gix, e_gi1, e_gi2, e_gi0, e_giB, e_tru, e_trub, e_isi, e_isir, fin_nx, fin_rt, fin_ex, b_bind, b_st, b_nx, b_thn, b_thr, b_thb, b_thc, List.getElem?_cons_zero, List.getElem?_cons_succ, List.set_cons_zero, List.set_cons_succ, decide_true, decide_false, Bool.not_true, Bool.not_false, List.cons_append, List.nil_append, List.length_map, eq_self, Int.reduceLT, Int.reduceLE, and_self, and_true, true_and, e_comp, get_last, i1]
    obtain ⟨v3, hp3, e3, a1, a2, p3, g3, l3⟩ := take_go (p1.app (e := [.lst [.int 9, .int 500]])) (m := m1) (by omega) (by omega) (by omega)
    simp only [e3, e_var, e_vget, e_c, e_op, e_op1, e_un, e_nil, e_cons, e_cons1, e_cons2, e_a0, e_ka0, e_app, e_app1, e_app2, e_tup, kT1, kT2, kT3, kT4, kT5, kT7, e_lst, kL0, kL1, kL2, kL3, kL4, kL5, e_test, e_ktest, e_and, e_andT, e_andF, e_or, e_orT, e_orF, e_not, e_knot, e_if, e_ifT, e_ifF, e_andv, e_andvT, e_andvF, e_orv, e_orvT, e_orvF, e_notv, e_knotv, e_ch, e_ch1, e_ch2, e_ch3T, e_ch3F, e_cb, e_call, e_make, e_fld, e_kfld, e_setf, e_setf1, e_setf2, e_seq, e_next, e_break, e_cont, e_expr, e_nx, e_ret, e_rt, e_retn, e_ifs, e_ifsT, e_ifsF, e_set, e_kset, e_asg, e_kasg, e_as2, e_gn, e_gtp, e_gto, e_gs0, e_gs1, e_for, e_rng1, e_rng2, e_srca, e_srcr, e_srco, e_srct, e_srcs, e_nop, e_part, e_kpart, e_sl, e_sl1, e_sl2, e_dslt, e_bm, e_kbm, e_bmo, e_add, e_sub, e_own1, e_mull, e_mulr, e_div, e_mod, e_neg, e_lt, e_gt, e_le, e_ge, e_eq, e_ne, e_eqs, e_eqb, e_ixt, e_ixs, e_ixr, e_ixo, e_ixR, at0, at1, at2, at3, at4, at5, at6, e_int, e_intT, e_intF, e_abs, e_min, e_max, e_lent, e_lens, e_lenr, e_leno, e_sumt, e_sumr, e_sumo, e_ftup, e_tupo, e_apnd, e_clr, e_clro, e_gix, e_gi1, e_gi2, e_gi0, e_giB, e_tru, e_trub, e_isi, e_isir, fin_nx, fin_rt, fin_ex, b_bind, b_st, b_nx, b_thn, b_thr, b_thb, b_thc, List.getElem?_cons_zero, List.getElem?_cons_succ, List.set_cons_zero, List.set_cons_succ, decide_true, decide_false, Bool.not_true, Bool.not_false, List.cons_append, List.nil_append, List.length_map, eq_self, Int.reduceLT, Int.reduceLE, and_self, and_true, true_and, e_comp, get_last]
    obtain ⟨v4, hp4, e4, b1, b2, p4, g4, l4⟩ := take_go p3 (m := below) (by omega) (by omega) (by omega)
    simp only [e4, e_var, e_vget, e_c, e_op, e_op1, e_un, e_nil, e_cons, e_cons1, e_cons2, e_a0, e_ka0, e_app, e_app1, e_app2, e_tup, kT1, kT2, kT3, kT4, kT5, kT7, e_lst, kL0, kL1, kL2, kL3, kL4, kL5, e_test, e_ktest, e_and, e_andT, e_andF, e_or, e_orT, e_orF, e_not, e_knot, e_if, e_ifT, e_ifF, e_andv, e_andvT, e_andvF, e_orv, e_orvT, e_orvF, e_notv, e_knotv, e_ch, e_ch1, e_ch2, e_ch3T, e_ch3F, e_cb, e_call, e_make, e_fld, e_kfld, e_setf, e_setf1, e_setf2, e_seq, e_next, e_break, e_cont, e_expr, e_nx, e_ret, e_rt, e_retn, e_ifs, e_ifsT, e_ifsF, e_set, e_kset, e_asg, e_kasg, e_as2, e_gn, e_gtp, e_gto, e_gs0, e_gs1, e_for, e_rng1, e_rng2, e_srca, e_srcr, e_srco, e_srct, e_srcs, e_nop, e_part, e_kpart, e_sl, e_sl1, e_sl2, e_dslt, e_bm, e_kbm, e_bmo, e_add, e_sub, e_own1, e_mull, e_mulr, e_div, e_mod, e_neg, e_lt, e_gt, e_le, e_ge, e_eq, e_ne, e_eqs, e_eqb, e_ixt, e_ixs, e_ixr, e_ixo, e_ixR, at0, at1, at2, at3, at4, at5, at6, e_int, e_intT, e_intF, e_abs, e_min, e_max, e_lent, e_lens, e_lenr, e_leno, e_sumt, e_sumr, e_sumo, e_ftup, e_tupo, e_apnd, e_clr, e_clro, e_gix, e_gi1, e_gi2, e_gi0, e_giB, e_tru, e_trub, e_isi, e_isir, fin_nx, fin_rt, fin_ex, b_bind, b_st, b_nx, b_thn, b_thr, b_thb, b_thc, List.getElem?_cons_zero, List.getElem?_cons_succ, List.set_cons_zero, List.set_cons_succ, decide_true, decide_false, Bool.not_true, Bool.not_false, List.cons_append, List.nil_append, List.length_map, eq_self, Int.reduceLT, Int.reduceLE, and_self, and_true, true_and, e_comp, get_last]
    exact ⟨.hyp (1 + v3) v4, hp4, rfl, ⟨by omega, by omega, b1, b2⟩, p4.le (by omega), g1.trans ((Px.app _ _).gr.trans (g3.trans g4))⟩
  · simp only [hv, e_var, e_vget, e_c, e_op, e_op1, e_un, e_nil, e_cons, e_cons1, e_cons2, e_a0, e_ka0, e_app, e_app1, e_app2, e_tup, kT1, kT2, kT3, kT4, kT5, kT7, e_lst, kL0, kL1, kL2, kL3, kL4, kL5, e_test, e_ktest, e_and, e_andT, e_andF, e_or, e_orT, e_orF, e_not, e_knot, e_if, e_ifT, e_ifF, e_andv, e_andvT, e_andvF, e_orv, e_orvT, e_orvF, e_notv, e_knotv, e_ch, e_ch1, e_ch2, e_ch3T, e_ch3F, e_cb, e_call, e_make, e_fld, e_kfld, e_setf, e_setf1, e_setf2, e_seq, e_next, e_break, e_cont, e_expr, e_nx, e_ret, e_rt, e_retn, e_ifs, e_ifsT, e_ifsF, e_set, e_kset, e_asg, e_kasg, e_as2, e_gn, e_gtp, e_gto, e_gs0, e_gs1, e_for, e_rng1, e_rng2, e_srca, e_srcr, e_srco, e_srct, e_srcs, e_nop, e_part, e_kpart, e_sl, e_sl1, e_sl2, e_dslt, e_bm, e_kbm, e_bmo, e_add, e_sub, e_own1, e_mull, e_mulr, e_div, e_mod, e_neg, e_lt, e_gt, e_le, e_ge, e_eq, e_ne, e_eqs, e_eqb, e_ixt, e_ixs, e_ixr, e_ixo, e_ixR, at0, at1, at2, at3, at4, at5, at6, e_int, e_intT, e_intF, e_abs, e_min, e_max, e_lent, e_lens, e_lenr, e_leno, e_sumt, e_sumr, e_sumo, e_ftup, e_tupo, e_apnd, e_clr, e_clro, e_gix, e_gi1, e_gi2, e_gi0, e_giB, e_tru, e_trub, e_isi, e_isir, fin_nx, fin_rt, fin_ex, b_bind, b_st, b_nx, b_thn, b_thr, b_thb, b_thc, List.getElem?_cons_zero, List.getElem?_cons_succ, List.set_cons_zero, List.set_cons_succ, decide_true, decide_false, Bool.not_true, Bool.not_false, List.cons_append, List.nil_append, List.length_map, eq_self, Int.reduceLT, Int.reduceLE, and_self, and_true, true_and, e_comp, get_last, i2]
    obtain ⟨v3, hp3, e3, a1, a2, p3, g3, l3⟩ := take_go (p1.app (e := [.lst [.int 12, .int 500]])) (m := m2) (by omega) (by omega) (by omega)
    simp only [e3, e_var, e_vget, e_c, e_op, e_op1, e_un, e_nil, e_cons, e_cons1, e_cons2, e_a0, e_ka0, e_app, e_app1, e_app2, e_tup, kT1, kT2, kT3, kT4, kT5, kT7, e_lst, kL0, kL1, kL2, kL3, kL4, kL5, e_test, e_ktest, e_and, e_andT, e_andF, e_or, e_orT, e_orF, e_not, e_knot, e_if, e_ifT, e_ifF, e_andv, e_andvT, e_andvF, e_orv, e_orvT, e_orvF, e_notv, e_knotv, e_ch, e_ch1, e_ch2, e_ch3T, e_ch3F, e_cb, e_call, e_make, e_fld, e_kfld, e_setf, e_setf1, e_setf2, e_seq, e_next, e_break, e_cont, e_expr, e_nx, e_ret, e_rt, e_retn, e_ifs, e_ifsT, e_ifsF, e_set, e_kset, e_asg, e_kasg, e_as2, e_gn, e_gtp, e_gto, e_gs0, e_gs1, e_for, e_rng1, e_rng2, e_srca, e_srcr, e_srco, e_srct, e_srcs, e_nop, e_part, e_kpart, e_sl, e_sl1, e_sl2, e_dslt, e_bm, e_kbm, e_bmo, e_add, e_sub, e_own1, e_mull, e_mulr, e_div, e_mod, e_neg, e_lt, e_gt, e_le, e_ge, e_eq, e_ne, e_eqs, e_eqb, e_ixt, e_ixs, e_ixr, e_ixo, e_ixR, at0, at1, at2, at3, at4, at5, at6, e_int, e_intT, e_intF, e_abs, e_min, e_max, e_lent, e_lens, e_lenr, e_leno, e_sumt, e_sumr, e_sumo, e_ftup, e_tupo, e_apnd, e_clr, e_clro, e_gix, e_gi1, e_gi2, e_gi0, e_giB, e_tru, e_trub, e_isi, e_isir, fin_nx, fin_rt, fin_ex, b_bind, b_st, b_nx, b_thn, b_thr, b_thb, b_thc, List.getElem?_cons_zero, List.getElem?_cons_succ, List.set_cons_zero, List.set_cons_succ, decide_true, decide_false, Bool.not_true, Bool.not_false, List.cons_append, List.nil_append, List.length_map, eq_self, Int.reduceLT, Int.reduceLE, and_self, and_true, true_and, e_comp, get_last, i3]
    obtain ⟨v4, hp4, e4, b1, b2, p4, g4, l4⟩ := take_go (p3.app (e := [.lst [.int 12, .int 501]])) (m := m3) (by omega) (by omega) (by omega)
    simp only [e4, e_var, e_vget, e_c, e_op, e_op1, e_un, e_nil, e_cons, e_cons1, e_cons2, e_a0, e_ka0, e_app, e_app1, e_app2, e_tup, kT1, kT2, kT3, kT4, kT5, kT7, e_lst, kL0, kL1, kL2, kL3, kL4, kL5, e_test, e_ktest, e_and, e_andT, e_andF, e_or, e_orT, e_orF, e_not, e_knot, e_if, e_ifT, e_ifF, e_andv, e_andvT, e_andvF, e_orv, e_orvT, e_orvF, e_notv, e_knotv, e_ch, e_ch1, e_ch2, e_ch3T, e_ch3F, e_cb, e_call, e_make, e_fld, e_kfld, e_setf, e_setf1, e_setf2, e_seq, e_next, e_break, e_cont, e_expr, e_nx, e_ret, e_rt, e_retn, e_ifs, e_ifsT, e_ifsF, e_set, e_kset, e_asg, e_kasg, e_as2, e_gn, e_gtp, e_gto, e_gs0, e_gs1, e_for, e_rng1, e_rng2, e_srca, e_srcr, e_srco, e_srct, e_srcs, e_nop, e_part, e_kpart, e_sl, e_sl1, e_sl2, e_dslt, e_bm, e_kbm, e_bmo, e_add, e_sub, e_own1, e_mull, e_mulr, e_div, e_mod, e_neg, e_lt, e_gt, e_le, e_ge, e_eq, e_ne, e_eqs, e_eqb, e_ixt, e_ixs, e_ixr, e_ixo, e_ixR, at0, at1, at2, at3, at4, at5, at6, e_int, e_intT, e_intF, e_abs, e_min, e_max, e_lent, e_lens, e_lenr, e_leno, e_sumt, e_sumr, e_sumo, e_ftup, e_tupo, e_apnd, e_clr, e_clro, e_gix, e_gi1, e_gi2, e_gi0, e_giB, e_tru, e_trub, e_isi, e_isir, fin_nx, fin_rt, fin_ex, b_bind, b_st, b_nx, b_thn, b_thr, b_thb, b_thc, List.getElem?_cons_zero, List.getElem?_cons_succ, List.set_cons_zero, List.set_cons_succ, decide_true, decide_false, Bool.not_true, Bool.not_false, List.cons_append, List.nil_append, List.length_map, eq_self, Int.reduceLT, Int.reduceLE, and_self, and_true, true_and, e_comp, get_last]
    obtain ⟨v5, hp5, e5, c1, c2, p5, g5, l5⟩ := take_go p4 (m := 1 + v3) (by omega) (by omega) (by omega)
    simp only [e5, e_var, e_vget, e_c, e_op, e_op1, e_un, e_nil, e_cons, e_cons1, e_cons2, e_a0, e_ka0, e_app, e_app1, e_app2, e_tup, kT1, kT2, kT3, kT4, kT5, kT7, e_lst, kL0, kL1, kL2, kL3, kL4, kL5, e_test, e_ktest, e_and, e_andT, e_andF, e_or, e_orT, e_orF, e_not, e_knot, e_if, e_ifT, e_ifF, e_andv, e_andvT, e_andvF, e_orv, e_orvT, e_orvF, e_notv, e_knotv, e_ch, e_ch1, e_ch2, e_ch3T, e_ch3F, e_cb, e_call, e_make, e_fld, e_kfld, e_setf, e_setf1, e_setf2, e_seq, e_next, e_break, e_cont, e_expr, e_nx, e_ret, e_rt, e_retn, e_ifs, e_ifsT, e_ifsF, e_set, e_kset, e_asg, e_kasg, e_as2, e_gn, e_gtp, e_gto, e_gs0, e_gs1, e_for, e_rng1, e_rng2, e_srca, e_srcr, e_srco, e_srct, e_srcs, e_nop, e_part, e_kpart, e_sl, e_sl1, e_sl2, e_dslt, e_bm, e_kbm, e_bmo, e_add, e_sub, e_own1, e_mull, e_mulr, e_div, e_mod, e_neg, e_lt, e_gt, e_le, e_ge, e_eq, e_ne, e_eqs, e_eqb, e_ixt, e_ixs, e_ixr, e_ixo, e_ixR, at0, at1, at2, at3, at4, at5, at6, e_int, e_intT, e_intF, e_abs, e_min, e_max, e_lent, e_lens, e_lenr, e_leno, e_sumt, e_sumr, e_sumo, e_ftup, e_tupo, e_apnd, e_clr, e_clro, e_gix, e_gi1, e_gi2, e_gi0, e_giB, e_tru, e_trub, e_isi, e_isir, fin_nx, fin_rt, fin_ex, b_bind, b_st, b_nx, b_thn, b_thr, b_thb, b_thc, List.getElem?_cons_zero, List.getElem?_cons_succ, List.set_cons_zero, List.set_cons_succ, decide_true, decide_false, Bool.not_true, Bool.not_false, List.cons_append, List.nil_append, List.length_map, eq_self, Int.reduceLT, Int.reduceLE, and_self, and_true, true_and, e_comp, get_last]
    exact ⟨.gap (1 + v3) v4 v5, hp5, rfl, ⟨by omega, by omega, by omega, by omega, by omega, by omega⟩, p5.le (by omega), g1.trans ((Px.app _ _).gr.trans (g3.trans ((Px.app _ _).gr.trans (g4.trans g5))))⟩
/-- the state of a row's first loop -/
structure WSt (p wd : Nat) (c per : Int) (i : Nat) (hp0 hp : DH) (ws : List Int) : Prop where
  len : ws.length = i
  at_ : hp[wd]? = some (.lst (ws.map .int))
  pl : PoolAt hp p (c + 8 * i)
  gr : Gr p hp0 hp
  wp : ∀ k, k < i → 1 ≤ ws.getD k 0 ∧ ws.getD k 0 ≤ 5000
  per : ∀ k : Nat, 0 < per → per ≤ k → k < i → ws.getD k 0 = ws.getD (k - per.toNat) 0
theorem WSt.step {p wd : Nat} {c per : Int} {i : Nat} {hp0 hp hp1 : DH} {ws : List Int} {v : Int} (h : WSt p wd c per i hp0 hp ws) (hw : hp0.length ≤ wd) (hpw : p ≠ wd) (p1 : PoolAt hp1 p (c + 8 * i + 8)) (g1 : Gr p hp hp1)
    (hv : 1 ≤ v ∧ v ≤ 5000) (hper : 0 < per → per ≤ i → v = ws.getD (i - per.toNat) 0) : WSt p wd c per (i + 1) hp0 (hp1.set wd (.lst (ws.map D.int ++ [.int v]))) (ws ++ [v]) := by
  have hl := h.len
  refine ⟨by simp [hl], ?_, ?_, (h.gr.trans g1).set_new hw, ?_, ?_⟩
  · rw [get_set (g1.get h.at_ (Ne.symm hpw))]; simp
  · exact (p1.set hpw).le (by push_cast; omega)
  · intro k hk
    by_cases e : k < i
    · rw [getD_app (by omega)]; exact h.wp k e
    · obtain rfl : k = ws.length := by omega
      rw [getD_last]; exact hv
  · intro k h1 h2 hk
    by_cases e : k < i
    · rw [getD_app (by omega), getD_app (by omega)]; exact h.per k h1 h2 e
    · obtain rfl : k = ws.length := by omega
      rw [getD_last, getD_app (by omega)]; rw [← hl] at hper; exact hper h1 h2
theorem bare_l0 {p wd : Nat} {c per least often many broad : Int} {n : Nat} {hp0 : DH} {x1 x2 x3 : Option D} (hc : c ≤ 2 ^ 50) (hb : broad = 0 ∨ broad = 1) (hn : n ≤ 40) (hw : hp0.length ≤ wd) (hpw : p ≠ wd)
    (h0 : hp0.length ≤ wd) {hp : DH} (h : WSt p wd c per 0 hp0 hp []) :
    ∃ env' hp', kFor (gN 7) lp__law_bare_0 [some (.ref p), some (.int least), some (.int often), some (.int many), some (.int broad), some (.int per), some (.ref wd), x1, x2, x3] (.rng 0 n) hp = .nx env' hp' ∧
      ∃ x ws, env' = [some (.ref p), some (.int least), some (.int often), some (.int many), some (.int broad), some (.int per), some (.ref wd), x, x2, x3] ∧ WSt p wd c per n hp0 hp' ws := by
  refine for_rng (fun i env' hp' => ∃ x ws, env' = [some (.ref p), some (.int least), some (.int often), some (.int many), some (.int broad), some (.int per), some (.ref wd), x, x2, x3] ∧ WSt p wd c per i hp0 hp' ws) ⟨_, [], rfl, h⟩ ?_
  rintro i env hp hi ⟨x, ws, rfl, st⟩
  have hl := st.len
  have hap : ∀ (v : Int) (hp : DH), appO wd (.int v) (some (.lst (ws.map D.int))) hp = .ok .non (hp.set wd (.lst (ws.map D.int ++ [.int v]))) := fun v hp => e_appo (by simp [hl, sizeLine]; omega)
  obtain ⟨m, i1, i1a, i1b⟩ : ∃ m, atI [D.int 40, D.int 5000] broad = some (.int m) ∧ 1 ≤ m ∧ m ≤ 5000 := by
    rcases hb with rfl | rfl
    · exact ⟨40, at0, by omega, by omega⟩
    · exact ⟨5000, at1, by omega, by omega⟩
  obtain ⟨v, hp1, e1, v1, v2, p1, g1, l1⟩ := take_go (st.pl.app (e := [.lst [.int 40, .int 5000]])) (m := m) (by omega) (by omega) (by omega)
  have g2 : Gr p hp hp1 := (Px.app _ _).gr.trans g1
  have a2 := g2.get st.at_ (Ne.symm hpw)
  simp only [lp__law_bare_0, e_var, e_vget, e_c, e_op, e_op1, e_un, e_nil, e_cons, e_cons1, e_cons2, e_a0, e_ka0, e_app, e_app1, e_app2, e_tup, kT1, kT2, kT3, kT4, kT5, kT7, e_lst, kL0, kL1, kL2, kL3, kL4, kL5, e_test, e_ktest, e_and, e_andT, e_andF, e_or, e_orT, e_orF, e_not, e_knot, e_if, e_ifT, e_ifF, e_andv, e_andvT, e_andvF, e_orv, e_orvT, e_orvF, e_notv, e_knotv, e_ch, e_ch1, e_ch2, e_ch3T, e_ch3F, e_cb, e_call, e_make, e_fld, e_kfld, e_setf, e_setf1, e_setf2, e_seq, e_next, e_break, e_cont, e_expr, e_nx, e_ret, e_rt, e_retn, e_ifs, e_ifsT, e_ifsF, e_set, e_kset, e_asg, e_kasg, e_as2, e_gn, e_gtp, e_gto, e_gs0, e_gs1, e_for, e_rng1, e_rng2, e_srca, e_srcr, e_srco, e_srct, e_srcs, e_nop, e_part, e_kpart, e_sl, e_sl1, e_sl2, e_dslt, e_bm, e_kbm, e_bmo, e_add, e_sub, e_own1, e_mull, e_mulr, e_div, e_mod, e_neg, e_lt, e_gt, e_le, e_ge, e_eq, e_ne, e_eqs, e_eqb, e_ixt, e_ixs, e_ixr, e_ixo, e_ixR, at0, at1, at2, at3, at4, at5, at6, e_int, e_intT, e_intF, e_abs, e_min, e_max, e_lent, e_lens, e_lenr, e_leno, e_sumt, e_sumr, e_sumo, e_ftup, e_tupo, e_apnd, e_clr, e_clro, e_gix, e_gi1, e_gi2, e_gi0, e_giB, e_tru, e_trub, e_isi, e_isir, fin_nx, fin_rt, fin_ex, b_bind, b_st, b_nx, b_thn, b_thr, b_thb, b_thc, List.getElem?_cons_zero, List.getElem?_cons_succ, List.set_cons_zero, List.set_cons_succ, decide_true, decide_false, Bool.not_true, Bool.not_false, List.cons_append, List.nil_append, List.length_map, eq_self, Int.reduceLT, Int.reduceLE, and_self, and_true, true_and, e_comp, get_last, Int.zero_add]
  by_cases h1 : 0 < per
  · simp only [h1, e_var, e_vget, e_c, e_op, e_op1, e_un, e_nil, e_cons, e_cons1, e_cons2, e_a0, e_ka0, e_app, e_app1, e_app2, e_tup, kT1, kT2, kT3, kT4, kT5, kT7, e_lst, kL0, kL1, kL2, kL3, kL4, kL5, e_test, e_ktest, e_and, e_andT, e_andF, e_or, e_orT, e_orF, e_not, e_knot, e_if, e_ifT, e_ifF, e_andv, e_andvT, e_andvF, e_orv, e_orvT, e_orvF, e_notv, e_knotv, e_ch, e_ch1, e_ch2, e_ch3T, e_ch3F, e_cb, e_call, e_make, e_fld, e_kfld, e_setf, e_setf1, e_setf2, e_seq, e_next, e_break, e_cont, e_expr, e_nx, e_ret, e_rt, e_retn, e_ifs, e_ifsT, e_ifsF, e_set, e_kset, e_asg, e_kasg, e_as2, e_gn, e_gtp, e_gto, e_gs0, e_gs1, e_for, e_rng1, e_rng2, e_srca, e_srcr, e_srco, e_srct, e_srcs, e_nop, e_part, e_kpart, e_sl, e_sl1, e_sl2, e_dslt, e_bm, e_kbm, e_bmo, e_add, e_sub, e_own1, e_mull, e_mulr, e_div, e_mod, e_neg, e_lt, e_gt, e_le, e_ge, e_eq, e_ne, e_eqs, e_eqb, e_ixt, e_ixs, e_ixr, e_ixo, e_ixR, at0, at1, at2, at3, at4, at5, at6, e_int, e_intT, e_intF, e_abs, e_min, e_max, e_lent, e_lens, e_lenr, e_leno, e_sumt, e_sumr, e_sumo, e_ftup, e_tupo, e_apnd, e_clr, e_clro, e_gix, e_gi1, e_gi2, e_gi0, e_giB, e_tru, e_trub, e_isi, e_isir, fin_nx, fin_rt, fin_ex, b_bind, b_st, b_nx, b_thn, b_thr, b_thb, b_thc, List.getElem?_cons_zero, List.getElem?_cons_succ, List.set_cons_zero, List.set_cons_succ, decide_true, decide_false, Bool.not_true, Bool.not_false, List.cons_append, List.nil_append, List.length_map, eq_self, Int.reduceLT, Int.reduceLE, and_self, and_true, true_and, e_comp, get_last]
    by_cases h2 : per ≤ (i : Int)
    · have ha : atI (ws.map D.int) ((i : Int) - per) = some (.int (ws.getD (i - per.toNat) 0)) := by
        rw [at_map (d := 0) (by omega) (by omega)]; congr 3; omega
      simp only [h2, e_var, e_vget, e_c, e_op, e_op1, e_un, e_nil, e_cons, e_cons1, e_cons2, e_a0, e_ka0, e_app, e_app1, e_app2, e_tup, kT1, kT2, kT3, kT4, kT5, kT7, e_lst, kL0, kL1, kL2, kL3, kL4, kL5, e_test, e_ktest, e_and, e_andT, e_andF, e_or, e_orT, e_orF, e_not, e_knot, e_if, e_ifT, e_ifF, e_andv, e_andvT, e_andvF, e_orv, e_orvT, e_orvF, e_notv, e_knotv, e_ch, e_ch1, e_ch2, e_ch3T, e_ch3F, e_cb, e_call, e_make, e_fld, e_kfld, e_setf, e_setf1, e_setf2, e_seq, e_next, e_break, e_cont, e_expr, e_nx, e_ret, e_rt, e_retn, e_ifs, e_ifsT, e_ifsF, e_set, e_kset, e_asg, e_kasg, e_as2, e_gn, e_gtp, e_gto, e_gs0, e_gs1, e_for, e_rng1, e_rng2, e_srca, e_srcr, e_srco, e_srct, e_srcs, e_nop, e_part, e_kpart, e_sl, e_sl1, e_sl2, e_dslt, e_bm, e_kbm, e_bmo, e_add, e_sub, e_own1, e_mull, e_mulr, e_div, e_mod, e_neg, e_lt, e_gt, e_le, e_ge, e_eq, e_ne, e_eqs, e_eqb, e_ixt, e_ixs, e_ixr, e_ixo, e_ixR, at0, at1, at2, at3, at4, at5, at6, e_int, e_intT, e_intF, e_abs, e_min, e_max, e_lent, e_lens, e_lenr, e_leno, e_sumt, e_sumr, e_sumo, e_ftup, e_tupo, e_apnd, e_clr, e_clro, e_gix, e_gi1, e_gi2, e_gi0, e_giB, e_tru, e_trub, e_isi, e_isir, fin_nx, fin_rt, fin_ex, b_bind, b_st, b_nx, b_thn, b_thr, b_thb, b_thc, List.getElem?_cons_zero, List.getElem?_cons_succ, List.set_cons_zero, List.set_cons_succ, decide_true, decide_false, Bool.not_true, Bool.not_false, List.cons_append, List.nil_append, List.length_map, eq_self, Int.reduceLT, Int.reduceLE, and_self, and_true, true_and, e_comp, get_last, st.at_, ha, hap]
      exact ⟨_, _, rfl, _, _, rfl, st.step hw hpw (st.pl.le (by omega)) (Gr.refl _ _) (st.wp _ (by omega)) fun _ _ => rfl⟩
    · simp only [h2, e_var, e_vget, e_c, e_op, e_op1, e_un, e_nil, e_cons, e_cons1, e_cons2, e_a0, e_ka0, e_app, e_app1, e_app2, e_tup, kT1, kT2, kT3, kT4, kT5, kT7, e_lst, kL0, kL1, kL2, kL3, kL4, kL5, e_test, e_ktest, e_and, e_andT, e_andF, e_or, e_orT, e_orF, e_not, e_knot, e_if, e_ifT, e_ifF, e_andv, e_andvT, e_andvF, e_orv, e_orvT, e_orvF, e_notv, e_knotv, e_ch, e_ch1, e_ch2, e_ch3T, e_ch3F, e_cb, e_call, e_make, e_fld, e_kfld, e_setf, e_setf1, e_setf2, e_seq, e_next, e_break, e_cont, e_expr, e_nx, e_ret, e_rt, e_retn, e_ifs, e_ifsT, e_ifsF, e_set, e_kset, e_asg, e_kasg, e_as2, e_gn, e_gtp, e_gto, e_gs0, e_gs1, e_for, e_rng1, e_rng2, e_srca, e_srcr, e_srco, e_srct, e_srcs, e_nop, e_part, e_kpart, e_sl, e_sl1, e_sl2, e_dslt, e_bm, e_kbm, e_bmo, e_add, e_sub, e_own1, e_mull, e_mulr, e_div, e_mod, e_neg, e_lt, e_gt, e_le, e_ge, e_eq, e_ne, e_eqs, e_eqb, e_ixt, e_ixs, e_ixr, e_ixo, e_ixR, at0, at1, at2, at3, at4, at5, at6, e_int, e_intT, e_intF, e_abs, e_min, e_max, e_lent, e_lens, e_lenr, e_leno, e_sumt, e_sumr, e_sumo, e_ftup, e_tupo, e_apnd, e_clr, e_clro, e_gix, e_gi1, e_gi2, e_gi0, e_giB, e_tru, e_trub, e_isi, e_isir, fin_nx, fin_rt, fin_ex, b_bind, b_st, b_nx, b_thn, b_thr, b_thb, b_thc, List.getElem?_cons_zero, List.getElem?_cons_succ, List.set_cons_zero, List.set_cons_succ, decide_true, decide_false, Bool.not_true, Bool.not_false, List.cons_append, List.nil_append, List.length_map, eq_self, Int.reduceLT, Int.reduceLE, and_self, and_true, true_and, e_comp, get_last, st.at_, i1, e1, a2, hap]
      exact ⟨_, _, rfl, _, _, rfl, st.step hw hpw (p1.le (by omega)) g2 ⟨by omega, by omega⟩ fun _ h => absurd h h2⟩
  · simp only [h1, e_var, e_vget, e_c, e_op, e_op1, e_un, e_nil, e_cons, e_cons1, e_cons2, e_a0, e_ka0, e_app, e_app1, e_app2, e_tup, kT1, kT2, kT3, kT4, kT5, kT7, e_lst, kL0, kL1, kL2, kL3, kL4, kL5, e_test, e_ktest, e_and, e_andT, e_andF, e_or, e_orT, e_orF, e_not, e_knot, e_if, e_ifT, e_ifF, e_andv, e_andvT, e_andvF, e_orv, e_orvT, e_orvF, e_notv, e_knotv, e_ch, e_ch1, e_ch2, e_ch3T, e_ch3F, e_cb, e_call, e_make, e_fld, e_kfld, e_setf, e_setf1, e_setf2, e_seq, e_next, e_break, e_cont, e_expr, e_nx, e_ret, e_rt, e_retn, e_ifs, e_ifsT, e_ifsF, e_set, e_kset, e_asg, e_kasg, e_as2, e_gn, e_gtp, e_gto, e_gs0, e_gs1, e_for, e_rng1, e_rng2, e_srca, e_srcr, e_srco, e_srct, e_srcs, e_nop, e_part, e_kpart, e_sl, e_sl1, e_sl2, e_dslt, e_bm, e_kbm, e_bmo, e_add, e_sub, e_own1, e_mull, e_mulr, e_div, e_mod, e_neg, e_lt, e_gt, e_le, e_ge, e_eq, e_ne, e_eqs, e_eqb, e_ixt, e_ixs, e_ixr, e_ixo, e_ixR, at0, at1, at2, at3, at4, at5, at6, e_int, e_intT, e_intF, e_abs, e_min, e_max, e_lent, e_lens, e_lenr, e_leno, e_sumt, e_sumr, e_sumo, e_ftup, e_tupo, e_apnd, e_clr, e_clro, e_gix, e_gi1, e_gi2, e_gi0, e_giB, e_tru, e_trub, e_isi, e_isir, fin_nx, fin_rt, fin_ex, b_bind, b_st, b_nx, b_thn, b_thr, b_thb, b_thc, List.getElem?_cons_zero, List.getElem?_cons_succ, List.set_cons_zero, List.set_cons_succ, decide_true, decide_false, Bool.not_true, Bool.not_false, List.cons_append, List.nil_append, List.length_map, eq_self, Int.reduceLT, Int.reduceLE, and_self, and_true, true_and, e_comp, get_last, st.at_, i1, e1, a2, hap]
    exact ⟨_, _, rfl, _, _, rfl, st.step hw hpw (p1.le (by omega)) g2 ⟨by omega, by omega⟩ fun h _ => absurd h h1⟩
/-- the state of a row's second loop -/
structure JSt (p jd : Nat) (c : Int) (W : Nat → Int) (i : Nat) (hp0 hp : DH) (js : List Jt) : Prop where
  len : js.length = i
  at_ : hp[jd]? = some (.lst (js.map Jt.D))
  pl : PoolAt hp p (c + 8 * i)
  gr : Gr p hp0 hp
  jp : ∀ k, k < i → (js.getD k default).OK (min (W k) (W (k + 1)))
theorem JSt.step {p jd : Nat} {c : Int} {W : Nat → Int} {i : Nat} {hp0 hp hp1 : DH} {js : List Jt} {v : Jt} (h : JSt p jd c W i hp0 hp js) (hw : hp0.length ≤ jd) (hpw : p ≠ jd) (p1 : PoolAt hp1 p (c + 8 * i + 8)) (g1 : Gr p hp hp1)
    (hv : v.OK (min (W i) (W (i + 1)))) : JSt p jd c W (i + 1) hp0 (hp1.set jd (.lst (js.map Jt.D ++ [v.D]))) (js ++ [v]) := by
  have hl := h.len
  refine ⟨by simp [hl], ?_, ?_, (h.gr.trans g1).set_new hw, ?_⟩
  · rw [get_set (g1.get h.at_ (Ne.symm hpw))]; simp
  · exact (p1.set hpw).le (by push_cast; omega)
  · intro k hk
    by_cases e : k < i
    · rw [getD_app (by omega)]; exact h.jp k e
    · obtain rfl : k = js.length := by omega
      rw [getD_last]; rw [← hl] at hv; exact hv
theorem bare_l1 {p wd jd : Nat} {c per least often many broad : Int} {n : Nat} {hp0 : DH} {ws : List Int} {x1 x3 : Option D} (hc : c ≤ 2 ^ 50) (hb : broad = 0 ∨ broad = 1) (hn : n < ws.length) (hl : ws.length ≤ 40) (hw : hp0.length ≤ jd) (hpw : p ≠ jd) (hpw2 : p ≠ wd)
    (hwd : hp0[wd]? = some (.lst (ws.map .int))) (wp : ∀ k, k < ws.length → 1 ≤ ws.getD k 0 ∧ ws.getD k 0 ≤ 5000) (wper : ∀ k : Nat, 0 < per → per ≤ k → k < ws.length → ws.getD k 0 = ws.getD (k - per.toNat) 0)
    {hp : DH} (h : JSt p jd c (fun k => ws.getD k 0) 0 hp0 hp []) :
    ∃ env' hp', kFor (gN 7) lp__law_bare_1 [some (.ref p), some (.int least), some (.int often), some (.int many), some (.int broad), some (.int per), some (.ref wd), x1, some (.ref jd), x3] (.rng 0 n) hp = .nx env' hp' ∧
      ∃ x x3 js, env' = [some (.ref p), some (.int least), some (.int often), some (.int many), some (.int broad), some (.int per), some (.ref wd), x, some (.ref jd), x3] ∧ JSt p jd c (fun k => ws.getD k 0) n hp0 hp' js := by
  refine for_rng (fun i env' hp' => ∃ x x3 js, env' = [some (.ref p), some (.int least), some (.int often), some (.int many), some (.int broad), some (.int per), some (.ref wd), x, some (.ref jd), x3] ∧ JSt p jd c (fun k => ws.getD k 0) i hp0 hp' js) ⟨_, _, [], rfl, h⟩ ?_
  rintro i env hp hi ⟨x, x3, js, rfl, st⟩
  have hjl := st.len
  have hap : ∀ (v : Jt) (hp : DH), appO jd v.D (some (.lst (js.map Jt.D))) hp = .ok .non (hp.set jd (.lst (js.map Jt.D ++ [v.D]))) := fun v hp => e_appo (by simp [hjl, sizeLine]; omega)
  have w0 := wp i (by omega)
  have w1 := wp (i + 1) (by omega)
  obtain ⟨v, hp1, e1, hv, p1, g1⟩ := joint_go st.pl (below := min (ws.getD i 0) (ws.getD (i + 1) 0)) (by omega) (by omega) (by omega) hb
  have a2 := g1.get st.at_ (Ne.symm hpw)
  have aw := st.gr.get hwd (Ne.symm hpw2)
  have k0 : atI (ws.map D.int) (i : Int) = some (.int (ws.getD i 0)) := by rw [at_map (d := 0) (by omega) (by omega)]; congr 3
  have k1 : atI (ws.map D.int) ((i : Int) + 1) = some (.int (ws.getD (i + 1) 0)) := by rw [at_map (d := 0) (by omega) (by omega)]; congr 3
  simp only [lp__law_bare_1, e_var, e_vget, e_c, e_op, e_op1, e_un, e_nil, e_cons, e_cons1, e_cons2, e_a0, e_ka0, e_app, e_app1, e_app2, e_tup, kT1, kT2, kT3, kT4, kT5, kT7, e_lst, kL0, kL1, kL2, kL3, kL4, kL5, e_test, e_ktest, e_and, e_andT, e_andF, e_or, e_orT, e_orF, e_not, e_knot, e_if, e_ifT, e_ifF, e_andv, e_andvT, e_andvF, e_orv, e_orvT, e_orvF, e_notv, e_knotv, e_ch, e_ch1, e_ch2, e_ch3T, e_ch3F, e_cb, e_call, e_make, e_fld, e_kfld, e_setf, e_setf1, e_setf2, e_seq, e_next, e_break, e_cont, e_expr, e_nx, e_ret, e_rt, e_retn, e_ifs, e_ifsT, e_ifsF, e_set, e_kset, e_asg, e_kasg, e_as2, e_gn, e_gtp, e_gto, e_gs0, e_gs1, e_for, e_rng1, e_rng2, e_srca, e_srcr, e_srco, e_srct, e_srcs, e_nop, e_part, e_kpart, e_sl, e_sl1, e_sl2, e_dslt, e_bm, e_kbm, e_bmo, e_add, e_sub, e_own1, e_mull, e_mulr, e_div, e_mod, e_neg, e_lt, e_gt, e_le, e_ge, e_eq, e_ne, e_eqs, e_eqb, e_ixt, e_ixs, e_ixr, e_ixo, e_ixR, at0, at1, at2, at3, at4, at5, at6, e_int, e_intT, e_intF, e_abs, e_min, e_max, e_lent, e_lens, e_lenr, e_leno, e_sumt, e_sumr, e_sumo, e_ftup, e_tupo, e_apnd, e_clr, e_clro, e_gix, e_gi1, e_gi2, e_gi0, e_giB, e_tru, e_trub, e_isi, e_isir, fin_nx, fin_rt, fin_ex, b_bind, b_st, b_nx, b_thn, b_thr, b_thb, b_thc, List.getElem?_cons_zero, List.getElem?_cons_succ, List.set_cons_zero, List.set_cons_succ, decide_true, decide_false, Bool.not_true, Bool.not_false, List.cons_append, List.nil_append, List.length_map, eq_self, Int.reduceLT, Int.reduceLE, and_self, and_true, true_and, e_comp, get_last, Int.zero_add]
  by_cases h1 : 0 < per
  · simp only [h1, e_var, e_vget, e_c, e_op, e_op1, e_un, e_nil, e_cons, e_cons1, e_cons2, e_a0, e_ka0, e_app, e_app1, e_app2, e_tup, kT1, kT2, kT3, kT4, kT5, kT7, e_lst, kL0, kL1, kL2, kL3, kL4, kL5, e_test, e_ktest, e_and, e_andT, e_andF, e_or, e_orT, e_orF, e_not, e_knot, e_if, e_ifT, e_ifF, e_andv, e_andvT, e_andvF, e_orv, e_orvT, e_orvF, e_notv, e_knotv, e_ch, e_ch1, e_ch2, e_ch3T, e_ch3F, e_cb, e_call, e_make, e_fld, e_kfld, e_setf, e_setf1, e_setf2, e_seq, e_next, e_break, e_cont, e_expr, e_nx, e_ret, e_rt, e_retn, e_ifs, e_ifsT, e_ifsF, e_set, e_kset, e_asg, e_kasg, e_as2, e_gn, e_gtp, e_gto, e_gs0, e_gs1, e_for, e_rng1, e_rng2, e_srca, e_srcr, e_srco, e_srct, e_srcs, e_nop, e_part, e_kpart, e_sl, e_sl1, e_sl2, e_dslt, e_bm, e_kbm, e_bmo, e_add, e_sub, e_own1, e_mull, e_mulr, e_div, e_mod, e_neg, e_lt, e_gt, e_le, e_ge, e_eq, e_ne, e_eqs, e_eqb, e_ixt, e_ixs, e_ixr, e_ixo, e_ixR, at0, at1, at2, at3, at4, at5, at6, e_int, e_intT, e_intF, e_abs, e_min, e_max, e_lent, e_lens, e_lenr, e_leno, e_sumt, e_sumr, e_sumo, e_ftup, e_tupo, e_apnd, e_clr, e_clro, e_gix, e_gi1, e_gi2, e_gi0, e_giB, e_tru, e_trub, e_isi, e_isir, fin_nx, fin_rt, fin_ex, b_bind, b_st, b_nx, b_thn, b_thr, b_thb, b_thc, List.getElem?_cons_zero, List.getElem?_cons_succ, List.set_cons_zero, List.set_cons_succ, decide_true, decide_false, Bool.not_true, Bool.not_false, List.cons_append, List.nil_append, List.length_map, eq_self, Int.reduceLT, Int.reduceLE, and_self, and_true, true_and, e_comp, get_last]
    by_cases h2 : per ≤ (i : Int)
    · have ha : atI (js.map Jt.D) ((i : Int) - per) = some ((js.getD (i - per.toNat) default).D) := by
        rw [at_map (d := default) (by omega) (by omega)]; congr 3; omega
      have hj := st.jp (i - per.toNat) (by omega)
      have q0 := wper i h1 h2 (by omega)
      have q1 := wper (i + 1) h1 (by push_cast; omega) (by omega)
      rw [show i + 1 - per.toNat = i - per.toNat + 1 by omega] at q1
      rw [← q0, ← q1] at hj
      simp only [h2, e_var, e_vget, e_c, e_op, e_op1, e_un, e_nil, e_cons, e_cons1, e_cons2, e_a0, e_ka0, e_app, e_app1, e_app2, e_tup, kT1, kT2, kT3, kT4, kT5, kT7, e_lst, kL0, kL1, kL2, kL3, kL4, kL5, e_test, e_ktest, e_and, e_andT, e_andF, e_or, e_orT, e_orF, e_not, e_knot, e_if, e_ifT, e_ifF, e_andv, e_andvT, e_andvF, e_orv, e_orvT, e_orvF, e_notv, e_knotv, e_ch, e_ch1, e_ch2, e_ch3T, e_ch3F, e_cb, e_call, e_make, e_fld, e_kfld, e_setf, e_setf1, e_setf2, e_seq, e_next, e_break, e_cont, e_expr, e_nx, e_ret, e_rt, e_retn, e_ifs, e_ifsT, e_ifsF, e_set, e_kset, e_asg, e_kasg, e_as2, e_gn, e_gtp, e_gto, e_gs0, e_gs1, e_for, e_rng1, e_rng2, e_srca, e_srcr, e_srco, e_srct, e_srcs, e_nop, e_part, e_kpart, e_sl, e_sl1, e_sl2, e_dslt, e_bm, e_kbm, e_bmo, e_add, e_sub, e_own1, e_mull, e_mulr, e_div, e_mod, e_neg, e_lt, e_gt, e_le, e_ge, e_eq, e_ne, e_eqs, e_eqb, e_ixt, e_ixs, e_ixr, e_ixo, e_ixR, at0, at1, at2, at3, at4, at5, at6, e_int, e_intT, e_intF, e_abs, e_min, e_max, e_lent, e_lens, e_lenr, e_leno, e_sumt, e_sumr, e_sumo, e_ftup, e_tupo, e_apnd, e_clr, e_clro, e_gix, e_gi1, e_gi2, e_gi0, e_giB, e_tru, e_trub, e_isi, e_isir, fin_nx, fin_rt, fin_ex, b_bind, b_st, b_nx, b_thn, b_thr, b_thb, b_thc, List.getElem?_cons_zero, List.getElem?_cons_succ, List.set_cons_zero, List.set_cons_succ, decide_true, decide_false, Bool.not_true, Bool.not_false, List.cons_append, List.nil_append, List.length_map, eq_self, Int.reduceLT, Int.reduceLE, and_self, and_true, true_and, e_comp, get_last, st.at_, ha, hap]
      exact ⟨_, _, rfl, _, _, _, rfl, st.step hw hpw (st.pl.le (by omega)) (Gr.refl _ _) hj⟩
    · simp only [h2, e_var, e_vget, e_c, e_op, e_op1, e_un, e_nil, e_cons, e_cons1, e_cons2, e_a0, e_ka0, e_app, e_app1, e_app2, e_tup, kT1, kT2, kT3, kT4, kT5, kT7, e_lst, kL0, kL1, kL2, kL3, kL4, kL5, e_test, e_ktest, e_and, e_andT, e_andF, e_or, e_orT, e_orF, e_not, e_knot, e_if, e_ifT, e_ifF, e_andv, e_andvT, e_andvF, e_orv, e_orvT, e_orvF, e_notv, e_knotv, e_ch, e_ch1, e_ch2, e_ch3T, e_ch3F, e_cb, e_call, e_make, e_fld, e_kfld, e_setf, e_setf1, e_setf2, e_seq, e_next, e_break, e_cont, e_expr, e_nx, e_ret, e_rt, e_retn, e_ifs, e_ifsT, e_ifsF, e_set, e_kset, e_asg, e_kasg, e_as2, e_gn, e_gtp, e_gto, e_gs0, e_gs1, e_for, e_rng1, e_rng2, e_srca, e_srcr, e_srco, e_srct, e_srcs, e_nop, e_part, e_kpart, e_sl, e_sl1, e_sl2, e_dslt, e_bm, e_kbm, e_bmo, e_add, e_sub, e_own1, e_mull, e_mulr, e_div, e_mod, e_neg, e_lt, e_gt, e_le, e_ge, e_eq, e_ne, e_eqs, e_eqb, e_ixt, e_ixs, e_ixr, e_ixo, e_ixR, at0, at1, at2, at3, at4, at5, at6, e_int, e_intT, e_intF, e_abs, e_min, e_max, e_lent, e_lens, e_lenr, e_leno, e_sumt, e_sumr, e_sumo, e_ftup, e_tupo, e_apnd, e_clr, e_clro, e_gix, e_gi1, e_gi2, e_gi0, e_giB, e_tru, e_trub, e_isi, e_isir, fin_nx, fin_rt, fin_ex, b_bind, b_st, b_nx, b_thn, b_thr, b_thb, b_thc, List.getElem?_cons_zero, List.getElem?_cons_succ, List.set_cons_zero, List.set_cons_succ, decide_true, decide_false, Bool.not_true, Bool.not_false, List.cons_append, List.nil_append, List.length_map, eq_self, Int.reduceLT, Int.reduceLE, and_self, and_true, true_and, e_comp, get_last, st.at_, aw, k0, k1, e1, a2, hap]
      exact ⟨_, _, rfl, _, _, _, rfl, st.step hw hpw (p1.le (by omega)) g1 hv⟩
  · simp only [h1, e_var, e_vget, e_c, e_op, e_op1, e_un, e_nil, e_cons, e_cons1, e_cons2, e_a0, e_ka0, e_app, e_app1, e_app2, e_tup, kT1, kT2, kT3, kT4, kT5, kT7, e_lst, kL0, kL1, kL2, kL3, kL4, kL5, e_test, e_ktest, e_and, e_andT, e_andF, e_or, e_orT, e_orF, e_not, e_knot, e_if, e_ifT, e_ifF, e_andv, e_andvT, e_andvF, e_orv, e_orvT, e_orvF, e_notv, e_knotv, e_ch, e_ch1, e_ch2, e_ch3T, e_ch3F, e_cb, e_call, e_make, e_fld, e_kfld, e_setf, e_setf1, e_setf2, e_seq, e_next, e_break, e_cont, e_expr, e_nx, e_ret, e_rt, e_retn, e_ifs, e_ifsT, e_ifsF, e_set, e_kset, e_asg, e_kasg, e_as2, e_gn, e_gtp, e_gto, e_gs0, e_gs1, e_for, e_rng1, e_rng2, e_srca, e_srcr, e_srco, e_srct, e_srcs, e_nop, e_part, e_kpart, e_sl, e_sl1, e_sl2, e_dslt, e_bm, e_kbm, e_bmo, e_add, e_sub, e_own1, e_mull, e_mulr, e_div, e_mod, e_neg, e_lt, e_gt, e_le, e_ge, e_eq, e_ne, e_eqs, e_eqb, e_ixt, e_ixs, e_ixr, e_ixo, e_ixR, at0, at1, at2, at3, at4, at5, at6, e_int, e_intT, e_intF, e_abs, e_min, e_max, e_lent, e_lens, e_lenr, e_leno, e_sumt, e_sumr, e_sumo, e_ftup, e_tupo, e_apnd, e_clr, e_clro, e_gix, e_gi1, e_gi2, e_gi0, e_giB, e_tru, e_trub, e_isi, e_isir, fin_nx, fin_rt, fin_ex, b_bind, b_st, b_nx, b_thn, b_thr, b_thb, b_thc, List.getElem?_cons_zero, List.getElem?_cons_succ, List.set_cons_zero, List.set_cons_succ, decide_true, decide_false, Bool.not_true, Bool.not_false, List.cons_append, List.nil_append, List.length_map, eq_self, Int.reduceLT, Int.reduceLE, and_self, and_true, true_and, e_comp, get_last, st.at_, aw, k0, k1, e1, a2, hap]
    exact ⟨_, _, rfl, _, _, _, rfl, st.step hw hpw (p1.le (by omega)) g1 hv⟩
theorem bare_tail {p : Nat} {c least often many : Int} {hp : DH} (h : PoolAt hp p c) (hc : c ≤ 2 ^ 41) (h1 : 0 ≤ many) (h2 : many ≤ 40) :
    ∃ (r : Row) (hp' : DH), fin (lp__law_bare_4 [some (.ref p), some (.int least), some (.int often), some (.int many), none, none, none, none, none, none] hp) = .ok r.D hp' ∧ r.OK ∧ (r.ws.length : Int) = many ∧ PoolAt hp' p (c + 1000) ∧ Gr p hp hp' := by
  simp only [lp__law_bare_4, e_var, e_vget, e_c, e_op, e_op1, e_un, e_nil, e_cons, e_cons1, e_cons2, e_a0, e_ka0, e_app, e_app1, e_app2, e_tup, kT1, kT2, kT3, kT4, kT5, kT7, e_lst, kL0, kL1, kL2, kL3, kL4, kL5, e_test, e_ktest, e_and, e_andT, e_andF, e_or, e_orT, e_orF, e_not, e_knot, e_if, e_ifT, e_ifF, e_andv, e_andvT, e_andvF, e_orv, e_orvT, e_orvF, e_notv, e_knotv, e_ch, e_ch1, e_ch2, e_ch3T, e_ch3F, e_cb, e_call, e_make, e_fld, e_kfld, e_setf, e_setf1, e_setf2, e_seq, e_next, e_break, e_cont, e_expr, e_nx, e_ret, e_rt, e_retn, e_ifs, e_ifsT, e_ifsF, e_set, e_kset, e_asg, e_kasg, e_as2, e_gn, e_gtp, e_gto, e_gs0, e_gs1, e_for, e_rng1, e_rng2, e_srca, e_srcr, e_srco, e_srct, e_srcs, e_nop, e_part, e_kpart, e_sl, e_sl1, e_sl2, e_dslt, e_bm, e_kbm, e_bmo, e_add, e_sub, e_own1, e_mull, e_mulr, e_div, e_mod, e_neg, e_lt, e_gt, e_le, e_ge, e_eq, e_ne, e_eqs, e_eqb, e_ixt, e_ixs, e_ixr, e_ixo, e_ixR, at0, at1, at2, at3, at4, at5, at6, e_int, e_intT, e_intF, e_abs, e_min, e_max, e_lent, e_lens, e_lenr, e_leno, e_sumt, e_sumr, e_sumo, e_ftup, e_tupo, e_apnd, e_clr, e_clro, e_gix, e_gi1, e_gi2, e_gi0, e_giB, e_tru, e_trub, e_isi, e_isir, fin_nx, fin_rt, fin_ex, b_bind, b_st, b_nx, b_thn, b_thr, b_thb, b_thc, List.getElem?_cons_zero, List.getElem?_cons_succ, List.set_cons_zero, List.set_cons_succ, decide_true, decide_false, Bool.not_true, Bool.not_false, List.cons_append, List.nil_append, List.length_map, eq_self, Int.reduceLT, Int.reduceLE, and_self, and_true, true_and, e_comp, get_last]
  obtain ⟨v, hp1, e1, v1, v2, p1, g1, l1⟩ := take_go h (m := 8) (by omega) (by omega) (by omega)
  obtain ⟨broad, hb, eb⟩ : ∃ broad : Int, (broad = 0 ∨ broad = 1) ∧ ∀ hp, fInt [.bl (decide (v = 7))] hp = .ok (.int broad) hp := by
    by_cases h : v = 7
    · exact ⟨1, .inr rfl, fun hp => by simp only [h, e_var, e_vget, e_c, e_op, e_op1, e_un, e_nil, e_cons, e_cons1, e_cons2, e_a0, e_ka0, e_app, e_app1, e_app2, e_tup, kT1, kT2, kT3, kT4, kT5, kT7, e_lst, kL0, kL1, kL2, kL3, kL4, kL5, e_test, e_ktest, e_and, e_andT, e_andF, e_or, e_orT, e_orF, e_not, e_knot, e_if, e_ifT, e_ifF, e_andv, e_andvT, e_andvF, e_orv, e_orvT, e_orvF, e_notv, e_knotv, e_ch, e_ch1, e_ch2, e_ch3T, e_ch3F, e_cb, e_call, e_make, e_fld, e_kfld, e_setf, e_setf1, e_setf2, e_seq, e_next, e_break, e_cont, e_expr, e_nx, e_ret, e_rt, e_retn, e_ifs, e_ifsT, e_ifsF, e_set, e_kset, e_asg, e_kasg, e_as2, e_gn, e_gtp, e_gto, e_gs0, e_gs1, e_for, e_rng1, e_rng2, e_srca, e_srcr, e_srco, e_srct, e_srcs, e_nop, e_part, e_kpart, e_sl, e_sl1, e_sl2, e_dslt, e_bm, e_kbm, e_bmo, e_add, e_sub, e_own1, e_mull, e_mulr, e_div, e_mod, e_neg, e_lt, e_gt, e_le, e_ge, e_eq, e_ne, e_eqs, e_eqb, e_ixt, e_ixs, e_ixr, e_ixo, e_ixR, at0, at1, at2, at3, at4, at5, at6, e_int, e_intT, e_intF, e_abs, e_min, e_max, e_lent, e_lens, e_lenr, e_leno, e_sumt, e_sumr, e_sumo, e_ftup, e_tupo, e_apnd, e_clr, e_clro, e_gix, e_gi1, e_gi2, e_gi0, e_giB, e_tru, e_trub, e_isi, e_isir, fin_nx, fin_rt, fin_ex, b_bind, b_st, b_nx, b_thn, b_thr, b_thb, b_thc, List.getElem?_cons_zero, List.getElem?_cons_succ, List.set_cons_zero, List.set_cons_succ, decide_true, decide_false, Bool.not_true, Bool.not_false, List.cons_append, List.nil_append, List.length_map, eq_self, Int.reduceLT, Int.reduceLE, and_self, and_true, true_and, e_comp, get_last]⟩
    · exact ⟨0, .inl rfl, fun hp => by simp only [h, e_var, e_vget, e_c, e_op, e_op1, e_un, e_nil, e_cons, e_cons1, e_cons2, e_a0, e_ka0, e_app, e_app1, e_app2, e_tup, kT1, kT2, kT3, kT4, kT5, kT7, e_lst, kL0, kL1, kL2, kL3, kL4, kL5, e_test, e_ktest, e_and, e_andT, e_andF, e_or, e_orT, e_orF, e_not, e_knot, e_if, e_ifT, e_ifF, e_andv, e_andvT, e_andvF, e_orv, e_orvT, e_orvF, e_notv, e_knotv, e_ch, e_ch1, e_ch2, e_ch3T, e_ch3F, e_cb, e_call, e_make, e_fld, e_kfld, e_setf, e_setf1, e_setf2, e_seq, e_next, e_break, e_cont, e_expr, e_nx, e_ret, e_rt, e_retn, e_ifs, e_ifsT, e_ifsF, e_set, e_kset, e_asg, e_kasg, e_as2, e_gn, e_gtp, e_gto, e_gs0, e_gs1, e_for, e_rng1, e_rng2, e_srca, e_srcr, e_srco, e_srct, e_srcs, e_nop, e_part, e_kpart, e_sl, e_sl1, e_sl2, e_dslt, e_bm, e_kbm, e_bmo, e_add, e_sub, e_own1, e_mull, e_mulr, e_div, e_mod, e_neg, e_lt, e_gt, e_le, e_ge, e_eq, e_ne, e_eqs, e_eqb, e_ixt, e_ixs, e_ixr, e_ixo, e_ixR, at0, at1, at2, at3, at4, at5, at6, e_int, e_intT, e_intF, e_abs, e_min, e_max, e_lent, e_lens, e_lenr, e_leno, e_sumt, e_sumr, e_sumo, e_ftup, e_tupo, e_apnd, e_clr, e_clro, e_gix, e_gi1, e_gi2, e_gi0, e_giB, e_tru, e_trub, e_isi, e_isir, fin_nx, fin_rt, fin_ex, b_bind, b_st, b_nx, b_thn, b_thr, b_thb, b_thc, List.getElem?_cons_zero, List.getElem?_cons_succ, List.set_cons_zero, List.set_cons_succ, decide_true, decide_false, Bool.not_true, Bool.not_false, List.cons_append, List.nil_append, List.length_map, eq_self, Int.reduceLT, Int.reduceLE, and_self, and_true, true_and, e_comp, get_last]⟩
  simp only [e1, e_var, e_vget, e_c, e_op, e_op1, e_un, e_nil, e_cons, e_cons1, e_cons2, e_a0, e_ka0, e_app, e_app1, e_app2, e_tup, kT1, kT2, kT3, kT4, kT5, kT7, e_lst, kL0, kL1, kL2, kL3, kL4, kL5, e_test, e_ktest, e_and, e_andT, e_andF, e_or, e_orT, e_orF, e_not, e_knot, e_if, e_ifT, e_ifF, e_andv, e_andvT, e_andvF, e_orv, e_orvT, e_orvF, e_notv, e_knotv, e_ch, e_ch1, e_ch2, e_ch3T, e_ch3F, e_cb, e_call, e_make, e_fld, e_kfld, e_setf, e_setf1, e_setf2, e_seq, e_next, e_break, e_cont, e_expr, e_nx, e_ret, e_rt, e_retn, e_ifs, e_ifsT, e_ifsF, e_set, e_kset, e_asg, e_kasg, e_as2, e_gn, e_gtp, e_gto, e_gs0, e_gs1, e_for, e_rng1, e_rng2, e_srca, e_srcr, e_srco, e_srct, e_srcs, e_nop, e_part, e_kpart, e_sl, e_sl1, e_sl2, e_dslt, e_bm, e_kbm, e_bmo, e_add, e_sub, e_own1, e_mull, e_mulr, e_div, e_mod, e_neg, e_lt, e_gt, e_le, e_ge, e_eq, e_ne, e_eqs, e_eqb, e_ixt, e_ixs, e_ixr, e_ixo, e_ixR, at0, at1, at2, at3, at4, at5, at6, e_int, e_intT, e_intF, e_abs, e_min, e_max, e_lent, e_lens, e_lenr, e_leno, e_sumt, e_sumr, e_sumo, e_ftup, e_tupo, e_apnd, e_clr, e_clro, e_gix, e_gi1, e_gi2, e_gi0, e_giB, e_tru, e_trub, e_isi, e_isir, fin_nx, fin_rt, fin_ex, b_bind, b_st, b_nx, b_thn, b_thr, b_thb, b_thc, List.getElem?_cons_zero, List.getElem?_cons_succ, List.set_cons_zero, List.set_cons_succ, decide_true, decide_false, Bool.not_true, Bool.not_false, List.cons_append, List.nil_append, List.length_map, eq_self, Int.reduceLT, Int.reduceLE, and_self, and_true, true_and, e_comp, get_last, eb]
  obtain ⟨u, hp2, e2, u1, u2, p2, g2, l2⟩ := take_go (p1.app (e := [.lst [.int 0, .int 0, .int 1, .int 2]])) (m := 4) (by omega) (by omega) (by omega)
  obtain ⟨per, ep⟩ : ∃ per : Int, atI [D.int 0, D.int 0, D.int 1, D.int 2] u = some (.int per) := by
    obtain rfl | rfl | rfl | rfl : u = 0 ∨ u = 1 ∨ u = 2 ∨ u = 3 := by omega
    · exact ⟨_, at0⟩
    · exact ⟨_, at1⟩
    · exact ⟨_, at2⟩
    · exact ⟨_, at3⟩
  have a2 := g2.get (n := hp1.length) get_last (by have := p1.lt; omega)
  simp only [e2, e_var, e_vget, e_c, e_op, e_op1, e_un, e_nil, e_cons, e_cons1, e_cons2, e_a0, e_ka0, e_app, e_app1, e_app2, e_tup, kT1, kT2, kT3, kT4, kT5, kT7, e_lst, kL0, kL1, kL2, kL3, kL4, kL5, e_test, e_ktest, e_and, e_andT, e_andF, e_or, e_orT, e_orF, e_not, e_knot, e_if, e_ifT, e_ifF, e_andv, e_andvT, e_andvF, e_orv, e_orvT, e_orvF, e_notv, e_knotv, e_ch, e_ch1, e_ch2, e_ch3T, e_ch3F, e_cb, e_call, e_make, e_fld, e_kfld, e_setf, e_setf1, e_setf2, e_seq, e_next, e_break, e_cont, e_expr, e_nx, e_ret, e_rt, e_retn, e_ifs, e_ifsT, e_ifsF, e_set, e_kset, e_asg, e_kasg, e_as2, e_gn, e_gtp, e_gto, e_gs0, e_gs1, e_for, e_rng1, e_rng2, e_srca, e_srcr, e_srco, e_srct, e_srcs, e_nop, e_part, e_kpart, e_sl, e_sl1, e_sl2, e_dslt, e_bm, e_kbm, e_bmo, e_add, e_sub, e_own1, e_mull, e_mulr, e_div, e_mod, e_neg, e_lt, e_gt, e_le, e_ge, e_eq, e_ne, e_eqs, e_eqb, e_ixt, e_ixs, e_ixr, e_ixo, e_ixR, at0, at1, at2, at3, at4, at5, at6, e_int, e_intT, e_intF, e_abs, e_min, e_max, e_lent, e_lens, e_lenr, e_leno, e_sumt, e_sumr, e_sumo, e_ftup, e_tupo, e_apnd, e_clr, e_clro, e_gix, e_gi1, e_gi2, e_gi0, e_giB, e_tru, e_trub, e_isi, e_isir, fin_nx, fin_rt, fin_ex, b_bind, b_st, b_nx, b_thn, b_thr, b_thb, b_thc, List.getElem?_cons_zero, List.getElem?_cons_succ, List.set_cons_zero, List.set_cons_succ, decide_true, decide_false, Bool.not_true, Bool.not_false, List.cons_append, List.nil_append, List.length_map, eq_self, Int.reduceLT, Int.reduceLE, and_self, and_true, true_and, e_comp, get_last, a2, ep]
  have hlt := p2.lt
  obtain ⟨env', hp3, e3, x, ws, rfl, st⟩ := bare_l0 (p := p) (wd := hp2.length) (c := c + 1 + 1) (per := per) (least := least) (often := often) (many := many) (broad := broad) (n := many.toNat) (hp0 := hp2) (hp := hp2 ++ [.lst []]) (x1 := none) (x2 := none) (x3 := none)
    (by omega) hb (by omega) (Nat.le_refl _) (by omega) (Nat.le_refl _) ⟨rfl, get_last, p2.app.le (by omega), (Px.app _ _).gr, fun k h => absurd h (by omega), fun k _ _ h => absurd h (by omega)⟩
  simp only [kRng1_ok (show -4611686018427387904 ≤ many ∧ many < 4611686018427387904 by omega), e_var, e_vget, e_c, e_op, e_op1, e_un, e_nil, e_cons, e_cons1, e_cons2, e_a0, e_ka0, e_app, e_app1, e_app2, e_tup, kT1, kT2, kT3, kT4, kT5, kT7, e_lst, kL0, kL1, kL2, kL3, kL4, kL5, e_test, e_ktest, e_and, e_andT, e_andF, e_or, e_orT, e_orF, e_not, e_knot, e_if, e_ifT, e_ifF, e_andv, e_andvT, e_andvF, e_orv, e_orvT, e_orvF, e_notv, e_knotv, e_ch, e_ch1, e_ch2, e_ch3T, e_ch3F, e_cb, e_call, e_make, e_fld, e_kfld, e_setf, e_setf1, e_setf2, e_seq, e_next, e_break, e_cont, e_expr, e_nx, e_ret, e_rt, e_retn, e_ifs, e_ifsT, e_ifsF, e_set, e_kset, e_asg, e_kasg, e_as2, e_gn, e_gtp, e_gto, e_gs0, e_gs1, e_for, e_rng1, e_rng2, e_srca, e_srcr, e_srco, e_srct, e_srcs, e_nop, e_part, e_kpart, e_sl, e_sl1, e_sl2, e_dslt, e_bm, e_kbm, e_bmo, e_add, e_sub, e_own1, e_mull, e_mulr, e_div, e_mod, e_neg, e_lt, e_gt, e_le, e_ge, e_eq, e_ne, e_eqs, e_eqb, e_ixt, e_ixs, e_ixr, e_ixo, e_ixR, at0, at1, at2, at3, at4, at5, at6, e_int, e_intT, e_intF, e_abs, e_min, e_max, e_lent, e_lens, e_lenr, e_leno, e_sumt, e_sumr, e_sumo, e_ftup, e_tupo, e_apnd, e_clr, e_clro, e_gix, e_gi1, e_gi2, e_gi0, e_giB, e_tru, e_trub, e_isi, e_isir, fin_nx, fin_rt, fin_ex, b_bind, b_st, b_nx, b_thn, b_thr, b_thb, b_thc, List.getElem?_cons_zero, List.getElem?_cons_succ, List.set_cons_zero, List.set_cons_succ, decide_true, decide_false, Bool.not_true, Bool.not_false, List.cons_append, List.nil_append, List.length_map, eq_self, Int.reduceLT, Int.reduceLE, and_self, and_true, true_and, e_comp, get_last, e3, lp__law_bare_3]
  have hwl := st.len
  have gl := st.gr.1
  have hlen3 : hp2.length < hp3.length := get_lt st.at_
  have fini : ∀ (js : List Jt) (x : Option D) (x3 : Option D) (hp4 : DH) (jd : Nat), hp4[hp2.length]? = some (.lst (ws.map .int)) → hp4[jd]? = some (.lst (js.map Jt.D)) →
      fin (lp__law_bare_2 [some (.ref p), some (.int least), some (.int often), some (.int many), some (.int broad), some (.int per), some (.ref hp2.length), x, some (.ref jd), x3] hp4) = .ok (Row.D ⟨ws, js⟩) hp4 := by
    intro js x x3 hp4 jd h1 h2
    simp only [lp__law_bare_2, e_var, e_vget, e_c, e_op, e_op1, e_un, e_nil, e_cons, e_cons1, e_cons2, e_a0, e_ka0, e_app, e_app1, e_app2, e_tup, kT1, kT2, kT3, kT4, kT5, kT7, e_lst, kL0, kL1, kL2, kL3, kL4, kL5, e_test, e_ktest, e_and, e_andT, e_andF, e_or, e_orT, e_orF, e_not, e_knot, e_if, e_ifT, e_ifF, e_andv, e_andvT, e_andvF, e_orv, e_orvT, e_orvF, e_notv, e_knotv, e_ch, e_ch1, e_ch2, e_ch3T, e_ch3F, e_cb, e_call, e_make, e_fld, e_kfld, e_setf, e_setf1, e_setf2, e_seq, e_next, e_break, e_cont, e_expr, e_nx, e_ret, e_rt, e_retn, e_ifs, e_ifsT, e_ifsF, e_set, e_kset, e_asg, e_kasg, e_as2, e_gn, e_gtp, e_gto, e_gs0, e_gs1, e_for, e_rng1, e_rng2, e_srca, e_srcr, e_srco, e_srct, e_srcs, e_nop, e_part, e_kpart, e_sl, e_sl1, e_sl2, e_dslt, e_bm, e_kbm, e_bmo, e_add, e_sub, e_own1, e_mull, e_mulr, e_div, e_mod, e_neg, e_lt, e_gt, e_le, e_ge, e_eq, e_ne, e_eqs, e_eqb, e_ixt, e_ixs, e_ixr, e_ixo, e_ixR, at0, at1, at2, at3, at4, at5, at6, e_int, e_intT, e_intF, e_abs, e_min, e_max, e_lent, e_lens, e_lenr, e_leno, e_sumt, e_sumr, e_sumo, e_ftup, e_tupo, e_apnd, e_clr, e_clro, e_gix, e_gi1, e_gi2, e_gi0, e_giB, e_tru, e_trub, e_isi, e_isir, fin_nx, fin_rt, fin_ex, b_bind, b_st, b_nx, b_thn, b_thr, b_thb, b_thc, List.getElem?_cons_zero, List.getElem?_cons_succ, List.set_cons_zero, List.set_cons_succ, decide_true, decide_false, Bool.not_true, Bool.not_false, List.cons_append, List.nil_append, List.length_map, eq_self, Int.reduceLT, Int.reduceLE, and_self, and_true, true_and, e_comp, get_last, h1, h2]
    rfl
  have gpre : Gr p hp hp3 := g1.trans ((Px.app _ _).gr.trans (g2.trans st.gr))
  by_cases hm : many = 0
  · subst hm
    simp only [kRng1_ok (show -4611686018427387904 ≤ (0 - 1 : Int) ∧ (0 - 1 : Int) < 4611686018427387904 by omega), e_var, e_vget, e_c, e_op, e_op1, e_un, e_nil, e_cons, e_cons1, e_cons2, e_a0, e_ka0, e_app, e_app1, e_app2, e_tup, kT1, kT2, kT3, kT4, kT5, kT7, e_lst, kL0, kL1, kL2, kL3, kL4, kL5, e_test, e_ktest, e_and, e_andT, e_andF, e_or, e_orT, e_orF, e_not, e_knot, e_if, e_ifT, e_ifF, e_andv, e_andvT, e_andvF, e_orv, e_orvT, e_orvF, e_notv, e_knotv, e_ch, e_ch1, e_ch2, e_ch3T, e_ch3F, e_cb, e_call, e_make, e_fld, e_kfld, e_setf, e_setf1, e_setf2, e_seq, e_next, e_break, e_cont, e_expr, e_nx, e_ret, e_rt, e_retn, e_ifs, e_ifsT, e_ifsF, e_set, e_kset, e_asg, e_kasg, e_as2, e_gn, e_gtp, e_gto, e_gs0, e_gs1, e_for, e_rng1, e_rng2, e_srca, e_srcr, e_srco, e_srct, e_srcs, e_nop, e_part, e_kpart, e_sl, e_sl1, e_sl2, e_dslt, e_bm, e_kbm, e_bmo, e_add, e_sub, e_own1, e_mull, e_mulr, e_div, e_mod, e_neg, e_lt, e_gt, e_le, e_ge, e_eq, e_ne, e_eqs, e_eqb, e_ixt, e_ixs, e_ixr, e_ixo, e_ixR, at0, at1, at2, at3, at4, at5, at6, e_int, e_intT, e_intF, e_abs, e_min, e_max, e_lent, e_lens, e_lenr, e_leno, e_sumt, e_sumr, e_sumo, e_ftup, e_tupo, e_apnd, e_clr, e_clro, e_gix, e_gi1, e_gi2, e_gi0, e_giB, e_tru, e_trub, e_isi, e_isir, fin_nx, fin_rt, fin_ex, b_bind, b_st, b_nx, b_thn, b_thr, b_thb, b_thc, List.getElem?_cons_zero, List.getElem?_cons_succ, List.set_cons_zero, List.set_cons_succ, decide_true, decide_false, Bool.not_true, Bool.not_false, List.cons_append, List.nil_append, List.length_map, eq_self, Int.reduceLT, Int.reduceLE, and_self, and_true, true_and, e_comp, get_last]
    have : kFor (gN 7) lp__law_bare_1 [some (.ref p), some (.int least), some (.int often), some (.int 0), some (.int broad), some (.int per), some (.ref hp2.length), x, some (.ref hp3.length), none] (.rng 0 (0 - 1 : Int).toNat) (hp3 ++ [.lst []]) = .nx [some (.ref p), some (.int least), some (.int often), some (.int 0), some (.int broad), some (.int per), some (.ref hp2.length), x, some (.ref hp3.length), none] (hp3 ++ [.lst []]) := rfl
    simp only [this, e_var, e_vget, e_c, e_op, e_op1, e_un, e_nil, e_cons, e_cons1, e_cons2, e_a0, e_ka0, e_app, e_app1, e_app2, e_tup, kT1, kT2, kT3, kT4, kT5, kT7, e_lst, kL0, kL1, kL2, kL3, kL4, kL5, e_test, e_ktest, e_and, e_andT, e_andF, e_or, e_orT, e_orF, e_not, e_knot, e_if, e_ifT, e_ifF, e_andv, e_andvT, e_andvF, e_orv, e_orvT, e_orvF, e_notv, e_knotv, e_ch, e_ch1, e_ch2, e_ch3T, e_ch3F, e_cb, e_call, e_make, e_fld, e_kfld, e_setf, e_setf1, e_setf2, e_seq, e_next, e_break, e_cont, e_expr, e_nx, e_ret, e_rt, e_retn, e_ifs, e_ifsT, e_ifsF, e_set, e_kset, e_asg, e_kasg, e_as2, e_gn, e_gtp, e_gto, e_gs0, e_gs1, e_for, e_rng1, e_rng2, e_srca, e_srcr, e_srco, e_srct, e_srcs, e_nop, e_part, e_kpart, e_sl, e_sl1, e_sl2, e_dslt, e_bm, e_kbm, e_bmo, e_add, e_sub, e_own1, e_mull, e_mulr, e_div, e_mod, e_neg, e_lt, e_gt, e_le, e_ge, e_eq, e_ne, e_eqs, e_eqb, e_ixt, e_ixs, e_ixr, e_ixo, e_ixR, at0, at1, at2, at3, at4, at5, at6, e_int, e_intT, e_intF, e_abs, e_min, e_max, e_lent, e_lens, e_lenr, e_leno, e_sumt, e_sumr, e_sumo, e_ftup, e_tupo, e_apnd, e_clr, e_clro, e_gix, e_gi1, e_gi2, e_gi0, e_giB, e_tru, e_trub, e_isi, e_isir, fin_nx, fin_rt, fin_ex, b_bind, b_st, b_nx, b_thn, b_thr, b_thb, b_thc, List.getElem?_cons_zero, List.getElem?_cons_succ, List.set_cons_zero, List.set_cons_succ, decide_true, decide_false, Bool.not_true, Bool.not_false, List.cons_append, List.nil_append, List.length_map, eq_self, Int.reduceLT, Int.reduceLE, and_self, and_true, true_and, e_comp, get_last]
    refine ⟨⟨ws, []⟩, _, fini [] _ _ _ _ (get_app st.at_) get_last, ⟨by simp [hwl], by simp [hwl], fun i hi => st.wp i (by simp at hi; omega), fun i hi => ?_⟩, by simp [hwl], st.pl.app.le (by omega), gpre.trans (Px.app _ _).gr⟩
    simp [hwl] at hi
  · have hlt3 := st.pl.lt
    obtain ⟨env', hp4, e4, x, x3, js, rfl, st2⟩ := bare_l1 (p := p) (wd := hp2.length) (jd := hp3.length) (c := c + 1 + 1 + 8 * many) (per := per) (least := least) (often := often) (many := many) (broad := broad) (n := (many - 1).toNat) (ws := ws) (hp0 := hp3) (hp := hp3 ++ [.lst []]) (x1 := x) (x3 := none)
      (by omega) hb (by omega) (by omega) (Nat.le_refl _) (by omega) (by omega) st.at_ (fun k hk => st.wp k (by omega)) (fun k h1 h2 hk => st.per k h1 h2 (by omega)) ⟨rfl, get_last, st.pl.app.le (by omega), (Px.app _ _).gr, fun k h => absurd h (by omega)⟩
    simp only [kRng1_ok (show -4611686018427387904 ≤ many - 1 ∧ many - 1 < 4611686018427387904 by omega), e_var, e_vget, e_c, e_op, e_op1, e_un, e_nil, e_cons, e_cons1, e_cons2, e_a0, e_ka0, e_app, e_app1, e_app2, e_tup, kT1, kT2, kT3, kT4, kT5, kT7, e_lst, kL0, kL1, kL2, kL3, kL4, kL5, e_test, e_ktest, e_and, e_andT, e_andF, e_or, e_orT, e_orF, e_not, e_knot, e_if, e_ifT, e_ifF, e_andv, e_andvT, e_andvF, e_orv, e_orvT, e_orvF, e_notv, e_knotv, e_ch, e_ch1, e_ch2, e_ch3T, e_ch3F, e_cb, e_call, e_make, e_fld, e_kfld, e_setf, e_setf1, e_setf2, e_seq, e_next, e_break, e_cont, e_expr, e_nx, e_ret, e_rt, e_retn, e_ifs, e_ifsT, e_ifsF, e_set, e_kset, e_asg, e_kasg, e_as2, e_gn, e_gtp, e_gto, e_gs0, e_gs1, e_for, e_rng1, e_rng2, e_srca, e_srcr, e_srco, e_srct, e_srcs, e_nop, e_part, e_kpart, e_sl, e_sl1, e_sl2, e_dslt, e_bm, e_kbm, e_bmo, e_add, e_sub, e_own1, e_mull, e_mulr, e_div, e_mod, e_neg, e_lt, e_gt, e_le, e_ge, e_eq, e_ne, e_eqs, e_eqb, e_ixt, e_ixs, e_ixr, e_ixo, e_ixR, at0, at1, at2, at3, at4, at5, at6, e_int, e_intT, e_intF, e_abs, e_min, e_max, e_lent, e_lens, e_lenr, e_leno, e_sumt, e_sumr, e_sumo, e_ftup, e_tupo, e_apnd, e_clr, e_clro, e_gix, e_gi1, e_gi2, e_gi0, e_giB, e_tru, e_trub, e_isi, e_isir, fin_nx, fin_rt, fin_ex, b_bind, b_st, b_nx, b_thn, b_thr, b_thb, b_thc, List.getElem?_cons_zero, List.getElem?_cons_succ, List.set_cons_zero, List.set_cons_succ, decide_true, decide_false, Bool.not_true, Bool.not_false, List.cons_append, List.nil_append, List.length_map, eq_self, Int.reduceLT, Int.reduceLE, and_self, and_true, true_and, e_comp, get_last, e4]
    have hjl := st2.len
    refine ⟨⟨ws, js⟩, _, fini js _ _ _ _ (st2.gr.get st.at_ (by omega)) st2.at_, ⟨by simp only; omega, by simp only; omega, fun i hi => st.wp i (by simp only at hi; omega), fun i hi => st2.jp i (by simp only at hi; omega)⟩, by simp only; omega, st2.pl.le (by omega), gpre.trans st2.gr⟩
theorem bare_go {p : Nat} {c least often : Int} {hp : DH} (h : PoolAt hp p c) (hc : c ≤ 2 ^ 40) (h1 : 0 ≤ least) (h2 : least ≤ 40) (h3 : 1 ≤ often) (h4 : often < 2 ^ 60) :
    ∃ (r : Row) (hp' : DH), run__law_bare [.ref p, .int least, .int often] hp = .ok r.D hp' ∧ r.OK ∧ least ≤ r.ws.length ∧ PoolAt hp' p (c + 2000) ∧ Gr p hp hp' := by
  rw [ent__law_bare]
  simp only [m__law_bare, e_var, e_vget, e_c, e_op, e_op1, e_un, e_nil, e_cons, e_cons1, e_cons2, e_a0, e_ka0, e_app, e_app1, e_app2, e_tup, kT1, kT2, kT3, kT4, kT5, kT7, e_lst, kL0, kL1, kL2, kL3, kL4, kL5, e_test, e_ktest, e_and, e_andT, e_andF, e_or, e_orT, e_orF, e_not, e_knot, e_if, e_ifT, e_ifF, e_andv, e_andvT, e_andvF, e_orv, e_orvT, e_orvF, e_notv, e_knotv, e_ch, e_ch1, e_ch2, e_ch3T, e_ch3F, e_cb, e_call, e_make, e_fld, e_kfld, e_setf, e_setf1, e_setf2, e_seq, e_next, e_break, e_cont, e_expr, e_nx, e_ret, e_rt, e_retn, e_ifs, e_ifsT, e_ifsF, e_set, e_kset, e_asg, e_kasg, e_as2, e_gn, e_gtp, e_gto, e_gs0, e_gs1, e_for, e_rng1, e_rng2, e_srca, e_srcr, e_srco, e_srct, e_srcs, e_nop, e_part, e_kpart, e_sl, e_sl1, e_sl2, e_dslt, e_bm, e_kbm, e_bmo, e_add, e_sub, e_own1, e_mull, e_mulr, e_div, e_mod, e_neg, e_lt, e_gt, e_le, e_ge, e_eq, e_ne, e_eqs, e_eqb, e_ixt, e_ixs, e_ixr, e_ixo, e_ixR, at0, at1, at2, at3, at4, at5, at6, e_int, e_intT, e_intF, e_abs, e_min, e_max, e_lent, e_lens, e_lenr, e_leno, e_sumt, e_sumr, e_sumo, e_ftup, e_tupo, e_apnd, e_clr, e_clro, e_gix, e_gi1, e_gi2, e_gi0, e_giB, e_tru, e_trub, e_isi, e_isir, fin_nx, fin_rt, fin_ex, b_bind, b_st, b_nx, b_thn, b_thr, b_thb, b_thc, List.getElem?_cons_zero, List.getElem?_cons_succ, List.set_cons_zero, List.set_cons_succ, decide_true, decide_false, Bool.not_true, Bool.not_false, List.cons_append, List.nil_append, List.length_map, eq_self, Int.reduceLT, Int.reduceLE, and_self, and_true, true_and, e_comp, get_last]
  obtain ⟨v, hp1, e1, v1, v2, p1, g1, l1⟩ := take_go h (m := 9) (by omega) (by omega) (by omega)
  simp only [e1, e_var, e_vget, e_c, e_op, e_op1, e_un, e_nil, e_cons, e_cons1, e_cons2, e_a0, e_ka0, e_app, e_app1, e_app2, e_tup, kT1, kT2, kT3, kT4, kT5, kT7, e_lst, kL0, kL1, kL2, kL3, kL4, kL5, e_test, e_ktest, e_and, e_andT, e_andF, e_or, e_orT, e_orF, e_not, e_knot, e_if, e_ifT, e_ifF, e_andv, e_andvT, e_andvF, e_orv, e_orvT, e_orvF, e_notv, e_knotv, e_ch, e_ch1, e_ch2, e_ch3T, e_ch3F, e_cb, e_call, e_make, e_fld, e_kfld, e_setf, e_setf1, e_setf2, e_seq, e_next, e_break, e_cont, e_expr, e_nx, e_ret, e_rt, e_retn, e_ifs, e_ifsT, e_ifsF, e_set, e_kset, e_asg, e_kasg, e_as2, e_gn, e_gtp, e_gto, e_gs0, e_gs1, e_for, e_rng1, e_rng2, e_srca, e_srcr, e_srco, e_srct, e_srcs, e_nop, e_part, e_kpart, e_sl, e_sl1, e_sl2, e_dslt, e_bm, e_kbm, e_bmo, e_add, e_sub, e_own1, e_mull, e_mulr, e_div, e_mod, e_neg, e_lt, e_gt, e_le, e_ge, e_eq, e_ne, e_eqs, e_eqb, e_ixt, e_ixs, e_ixr, e_ixo, e_ixR, at0, at1, at2, at3, at4, at5, at6, e_int, e_intT, e_intF, e_abs, e_min, e_max, e_lent, e_lens, e_lenr, e_leno, e_sumt, e_sumr, e_sumo, e_ftup, e_tupo, e_apnd, e_clr, e_clro, e_gix, e_gi1, e_gi2, e_gi0, e_giB, e_tru, e_trub, e_isi, e_isir, fin_nx, fin_rt, fin_ex, b_bind, b_st, b_nx, b_thn, b_thr, b_thb, b_thc, List.getElem?_cons_zero, List.getElem?_cons_succ, List.set_cons_zero, List.set_cons_succ, decide_true, decide_false, Bool.not_true, Bool.not_false, List.cons_append, List.nil_append, List.length_map, eq_self, Int.reduceLT, Int.reduceLE, and_self, and_true, true_and, e_comp, get_last]
  obtain ⟨u, hp2, e2, u1, u2, p2, g2, l2⟩ := take_go p1 (m := often) (by omega) (by omega) (by omega)
  simp only [e2, e_var, e_vget, e_c, e_op, e_op1, e_un, e_nil, e_cons, e_cons1, e_cons2, e_a0, e_ka0, e_app, e_app1, e_app2, e_tup, kT1, kT2, kT3, kT4, kT5, kT7, e_lst, kL0, kL1, kL2, kL3, kL4, kL5, e_test, e_ktest, e_and, e_andT, e_andF, e_or, e_orT, e_orF, e_not, e_knot, e_if, e_ifT, e_ifF, e_andv, e_andvT, e_andvF, e_orv, e_orvT, e_orvF, e_notv, e_knotv, e_ch, e_ch1, e_ch2, e_ch3T, e_ch3F, e_cb, e_call, e_make, e_fld, e_kfld, e_setf, e_setf1, e_setf2, e_seq, e_next, e_break, e_cont, e_expr, e_nx, e_ret, e_rt, e_retn, e_ifs, e_ifsT, e_ifsF, e_set, e_kset, e_asg, e_kasg, e_as2, e_gn, e_gtp, e_gto, e_gs0, e_gs1, e_for, e_rng1, e_rng2, e_srca, e_srcr, e_srco, e_srct, e_srcs, e_nop, e_part, e_kpart, e_sl, e_sl1, e_sl2, e_dslt, e_bm, e_kbm, e_bmo, e_add, e_sub, e_own1, e_mull, e_mulr, e_div, e_mod, e_neg, e_lt, e_gt, e_le, e_ge, e_eq, e_ne, e_eqs, e_eqb, e_ixt, e_ixs, e_ixr, e_ixo, e_ixR, at0, at1, at2, at3, at4, at5, at6, e_int, e_intT, e_intF, e_abs, e_min, e_max, e_lent, e_lens, e_lenr, e_leno, e_sumt, e_sumr, e_sumo, e_ftup, e_tupo, e_apnd, e_clr, e_clro, e_gix, e_gi1, e_gi2, e_gi0, e_giB, e_tru, e_trub, e_isi, e_isir, fin_nx, fin_rt, fin_ex, b_bind, b_st, b_nx, b_thn, b_thr, b_thb, b_thc, List.getElem?_cons_zero, List.getElem?_cons_succ, List.set_cons_zero, List.set_cons_succ, decide_true, decide_false, Bool.not_true, Bool.not_false, List.cons_append, List.nil_append, List.length_map, eq_self, Int.reduceLT, Int.reduceLE, and_self, and_true, true_and, e_comp, get_last]
  by_cases hu : u = often - 1
  · obtain ⟨z, hp3, e3, z1, z2, p3, g3, l3⟩ := take_go p2 (m := 41) (by omega) (by omega) (by omega)
    simp only [hu, e_var, e_vget, e_c, e_op, e_op1, e_un, e_nil, e_cons, e_cons1, e_cons2, e_a0, e_ka0, e_app, e_app1, e_app2, e_tup, kT1, kT2, kT3, kT4, kT5, kT7, e_lst, kL0, kL1, kL2, kL3, kL4, kL5, e_test, e_ktest, e_and, e_andT, e_andF, e_or, e_orT, e_orF, e_not, e_knot, e_if, e_ifT, e_ifF, e_andv, e_andvT, e_andvF, e_orv, e_orvT, e_orvF, e_notv, e_knotv, e_ch, e_ch1, e_ch2, e_ch3T, e_ch3F, e_cb, e_call, e_make, e_fld, e_kfld, e_setf, e_setf1, e_setf2, e_seq, e_next, e_break, e_cont, e_expr, e_nx, e_ret, e_rt, e_retn, e_ifs, e_ifsT, e_ifsF, e_set, e_kset, e_asg, e_kasg, e_as2, e_gn, e_gtp, e_gto, e_gs0, e_gs1, e_for, e_rng1, e_rng2, e_srca, e_srcr, e_srco, e_srct, e_srcs, e_nop, e_part, e_kpart, e_sl, e_sl1, e_sl2, e_dslt, e_bm, e_kbm, e_bmo, e_add, e_sub, e_own1, e_mull, e_mulr, e_div, e_mod, e_neg, e_lt, e_gt, e_le, e_ge, e_eq, e_ne, e_eqs, e_eqb, e_ixt, e_ixs, e_ixr, e_ixo, e_ixR, at0, at1, at2, at3, at4, at5, at6, e_int, e_intT, e_intF, e_abs, e_min, e_max, e_lent, e_lens, e_lenr, e_leno, e_sumt, e_sumr, e_sumo, e_ftup, e_tupo, e_apnd, e_clr, e_clro, e_gix, e_gi1, e_gi2, e_gi0, e_giB, e_tru, e_trub, e_isi, e_isir, fin_nx, fin_rt, fin_ex, b_bind, b_st, b_nx, b_thn, b_thr, b_thb, b_thc, List.getElem?_cons_zero, List.getElem?_cons_succ, List.set_cons_zero, List.set_cons_succ, decide_true, decide_false, Bool.not_true, Bool.not_false, List.cons_append, List.nil_append, List.length_map, eq_self, Int.reduceLT, Int.reduceLE, and_self, and_true, true_and, e_comp, get_last, e3]
    obtain ⟨r, hp4, e4, ok, hm, p4, g4⟩ := bare_tail p3 (least := least) (often := often) (many := max least z) (by omega) (by omega) (by omega)
    exact ⟨r, hp4, e4, ok, by omega, p4.le (by omega), g1.trans (g2.trans (g3.trans g4))⟩
  · simp only [hu, e_var, e_vget, e_c, e_op, e_op1, e_un, e_nil, e_cons, e_cons1, e_cons2, e_a0, e_ka0, e_app, e_app1, e_app2, e_tup, kT1, kT2, kT3, kT4, kT5, kT7, e_lst, kL0, kL1, kL2, kL3, kL4, kL5, e_test, e_ktest, e_and, e_andT, e_andF, e_or, e_orT, e_orF, e_not, e_knot, e_if, e_ifT, e_ifF, e_andv, e_andvT, e_andvF, e_orv, e_orvT, e_orvF, e_notv, e_knotv, e_ch, e_ch1, e_ch2, e_ch3T, e_ch3F, e_cb, e_call, e_make, e_fld, e_kfld, e_setf, e_setf1, e_setf2, e_seq, e_next, e_break, e_cont, e_expr, e_nx, e_ret, e_rt, e_retn, e_ifs, e_ifsT, e_ifsF, e_set, e_kset, e_asg, e_kasg, e_as2, e_gn, e_gtp, e_gto, e_gs0, e_gs1, e_for, e_rng1, e_rng2, e_srca, e_srcr, e_srco, e_srct, e_srcs, e_nop, e_part, e_kpart, e_sl, e_sl1, e_sl2, e_dslt, e_bm, e_kbm, e_bmo, e_add, e_sub, e_own1, e_mull, e_mulr, e_div, e_mod, e_neg, e_lt, e_gt, e_le, e_ge, e_eq, e_ne, e_eqs, e_eqb, e_ixt, e_ixs, e_ixr, e_ixo, e_ixR, at0, at1, at2, at3, at4, at5, at6, e_int, e_intT, e_intF, e_abs, e_min, e_max, e_lent, e_lens, e_lenr, e_leno, e_sumt, e_sumr, e_sumo, e_ftup, e_tupo, e_apnd, e_clr, e_clro, e_gix, e_gi1, e_gi2, e_gi0, e_giB, e_tru, e_trub, e_isi, e_isir, fin_nx, fin_rt, fin_ex, b_bind, b_st, b_nx, b_thn, b_thr, b_thb, b_thc, List.getElem?_cons_zero, List.getElem?_cons_succ, List.set_cons_zero, List.set_cons_succ, decide_true, decide_false, Bool.not_true, Bool.not_false, List.cons_append, List.nil_append, List.length_map, eq_self, Int.reduceLT, Int.reduceLE, and_self, and_true, true_and, e_comp, get_last]
    obtain ⟨r, hp4, e4, ok, hm, p4, g4⟩ := bare_tail p2 (least := least) (often := often) (many := max least v) (by omega) (by omega) (by omega)
    exact ⟨r, hp4, e4, ok, by omega, p4.le (by omega), g1.trans (g2.trans g4)⟩
end DL
/-! the glue of a stretch, a line's key -/
namespace DL
open PySem PySem.Spec PyProof.Rows L2
theorem s_gg : (("gap" : Str) == ("gap" : Str)) = true := by decide +kernel
theorem s_hg : (("hyphen" : Str) == ("gap" : Str)) = false := by decide +kernel
theorem s_gh : (("gap" : Str) == ("hyphen" : Str)) = false := by decide +kernel
theorem s_hh : (("hyphen" : Str) == ("hyphen" : Str)) = true := by decide +kernel
def gW (r : Row) (s e : Nat) : Int := (S r.w e - S r.w s) + (S (fun i => (r.j i).w) (e - 1) - S (fun i => (r.j i).w) s) + (if e < r.ws.length then (r.j (e - 1)).h else 0)
def gM (r : Row) (s e : Nat) : Int := S (fun i => (r.j i).m) (e - 1) - S (fun i => (r.j i).m) s
def gL (r : Row) (s e : Nat) : Int := S (fun i => (r.j i).l) (e - 1) - S (fun i => (r.j i).l) s
theorem Row.OK.atw {r : Row} (ok : r.OK) {i : Nat} (h : i < r.ws.length) : atI (r.ws.map D.int) (i : Int) = some (.int (r.w i)) := by
  rw [at_map (d := 0) (by omega) (by omega)]; rfl
theorem Row.OK.atj {r : Row} (ok : r.OK) {i : Nat} (h : i + 1 < r.ws.length) : atI (r.js.map Jt.D) (i : Int) = some (r.j i).D := by
  have := ok.len
  rw [at_map (d := default) (by omega) (by omega)]; rfl
theorem Row.OK.sum {r : Row} (ok : r.OK) {s e : Nat} (h : s ≤ e) (he : e ≤ r.ws.length) {hp : DH} : fSum [.tup (cutD (r.ws.map D.int) (some (s : Int)) (some (e : Int)))] hp = .ok (.int (S r.w e - S r.w s)) hp := e_sumcut h he
theorem glue_go {r : Row} (ok : r.OK) {s e : Nat} (h1 : s < e) (h2 : e ≤ r.ws.length) {hp : DH} :
    run__law_glue [r.D, .int (s : Int), .int (e : Int)] hp = .ok (.ref hp.length) (hp ++ [.lst [.int (gW r s e), .int (gM r s e), .int (gL r s e)]]) := by
  have hmax := ok.max
  rw [ent__law_glue]
  simp only [m__law_glue, e_var, e_vget, e_c, e_op, e_op1, e_un, e_nil, e_cons, e_cons1, e_cons2, e_a0, e_ka0, e_app, e_app1, e_app2, e_tup, kT1, kT2, kT3, kT4, kT5, kT7, e_lst, kL0, kL1, kL2, kL3, kL4, kL5, e_test, e_ktest, e_and, e_andT, e_andF, e_or, e_orT, e_orF, e_not, e_knot, e_if, e_ifT, e_ifF, e_andv, e_andvT, e_andvF, e_orv, e_orvT, e_orvF, e_notv, e_knotv, e_ch, e_ch1, e_ch2, e_ch3T, e_ch3F, e_cb, e_call, e_make, e_fld, e_kfld, e_setf, e_setf1, e_setf2, e_seq, e_next, e_break, e_cont, e_expr, e_nx, e_ret, e_rt, e_retn, e_ifs, e_ifsT, e_ifsF, e_set, e_kset, e_asg, e_kasg, e_as2, e_gn, e_gtp, e_gto, e_gs0, e_gs1, e_for, e_rng1, e_rng2, e_srca, e_srcr, e_srco, e_srct, e_srcs, e_nop, e_part, e_kpart, e_sl, e_sl1, e_sl2, e_dslt, e_bm, e_kbm, e_bmo, e_add, e_sub, e_own1, e_mull, e_mulr, e_div, e_mod, e_neg, e_lt, e_gt, e_le, e_ge, e_eq, e_ne, e_eqs, e_eqb, e_ixt, e_ixs, e_ixr, e_ixo, e_ixR, at0, at1, at2, at3, at4, at5, at6, e_int, e_intT, e_intF, e_abs, e_min, e_max, e_lent, e_lens, e_lenr, e_leno, e_sumt, e_sumr, e_sumo, e_ftup, e_tupo, e_apnd, e_clr, e_clro, e_gix, e_gi1, e_gi2, e_gi0, e_giB, e_tru, e_trub, e_isi, e_isir, fin_nx, fin_rt, fin_ex, b_bind, b_st, b_nx, b_thn, b_thr, b_thb, b_thc, List.getElem?_cons_zero, List.getElem?_cons_succ, List.set_cons_zero, List.set_cons_succ, decide_true, decide_false, Bool.not_true, Bool.not_false, List.cons_append, List.nil_append, List.length_map, eq_self, Int.reduceLT, Int.reduceLE, and_self, and_true, true_and, e_comp, get_last, Row.D, ok.sum (Nat.le_of_lt h1) h2, kRng2_ok (show -4611686018427387904 ≤ (s : Int) ∧ (s : Int) < 4611686018427387904 ∧ -4611686018427387904 ≤ ((e : Int) - 1) ∧ ((e : Int) - 1) < 4611686018427387904 by omega)]
  have hpos : 0 < e := by omega
  obtain ⟨env', hp', ef, rfl, a, b, c, x6, x7, rfl, ha, hb, hc⟩ := for_rng (j := 6) (b := lp__law_glue_0) (lo := (s : Int)) (n := ((e : Int) - 1 - s).toNat) (hp := hp) (env := [some r.D, some (.int (s : Int)), some (.int (e : Int)), some (.int (S r.w e - S r.w s)), some (.int 0), some (.int 0), none, none])
    (fun i env' hp' => hp' = hp ∧ ∃ a b c x6 x7, env' = [some r.D, some (.int (s : Int)), some (.int (e : Int)), some (.int a), some (.int b), some (.int c), x6, x7] ∧ a = (S r.w e - S r.w s) + (S (fun i => (r.j i).w) (s + i) - S (fun i => (r.j i).w) s) ∧
      b = S (fun i => (r.j i).m) (s + i) - S (fun i => (r.j i).m) s ∧ c = S (fun i => (r.j i).l) (s + i) - S (fun i => (r.j i).l) s)
    ⟨rfl, _, _, _, none, none, rfl, by simp, by simp, by simp⟩ (by
      rintro i env hp i1 ⟨rfl, a, b, c, x6, x7, rfl, ha, hb, hc⟩
      have aj := ok.atj (i := s + i) (by omega)
      rw [Int.natCast_add] at aj
      have e1 : S (fun i => (r.j i).w) (s + (i + 1)) = S (fun i => (r.j i).w) (s + i) + (r.j (s + i)).w := rfl
      have e2 : S (fun i => (r.j i).m) (s + (i + 1)) = S (fun i => (r.j i).m) (s + i) + (r.j (s + i)).m := rfl
      have e3 : S (fun i => (r.j i).l) (s + (i + 1)) = S (fun i => (r.j i).l) (s + i) + (r.j (s + i)).l := rfl
      rcases hj : r.j (s + i) with ⟨w, m, l⟩ | ⟨m, b⟩
      · have q1 : (r.j (s + i)).w = w := by rw [hj]; rfl
        have q2 : (r.j (s + i)).m = m := by rw [hj]; rfl
        have q3 : (r.j (s + i)).l = l := by rw [hj]; rfl
        rw [hj] at aj
        simp only [lp__law_glue_0, e_var, e_vget, e_c, e_op, e_op1, e_un, e_nil, e_cons, e_cons1, e_cons2, e_a0, e_ka0, e_app, e_app1, e_app2, e_tup, kT1, kT2, kT3, kT4, kT5, kT7, e_lst, kL0, kL1, kL2, kL3, kL4, kL5, e_test, e_ktest, e_and, e_andT, e_andF, e_or, e_orT, e_orF, e_not, e_knot, e_if, e_ifT, e_ifF, e_andv, e_andvT, e_andvF, e_orv, e_orvT, e_orvF, e_notv, e_knotv, e_ch, e_ch1, e_ch2, e_ch3T, e_ch3F, e_cb, e_call, e_make, e_fld, e_kfld, e_setf, e_setf1, e_setf2, e_seq, e_next, e_break, e_cont, e_expr, e_nx, e_ret, e_rt, e_retn, e_ifs, e_ifsT, e_ifsF, e_set, e_kset, e_asg, e_kasg, e_as2, e_gn, e_gtp, e_gto, e_gs0, e_gs1, e_for, e_rng1, e_rng2, e_srca, e_srcr, e_srco, e_srct, e_srcs, e_nop, e_part, e_kpart, e_sl, e_sl1, e_sl2, e_dslt, e_bm, e_kbm, e_bmo, e_add, e_sub, e_own1, e_mull, e_mulr, e_div, e_mod, e_neg, e_lt, e_gt, e_le, e_ge, e_eq, e_ne, e_eqs, e_eqb, e_ixt, e_ixs, e_ixr, e_ixo, e_ixR, at0, at1, at2, at3, at4, at5, at6, e_int, e_intT, e_intF, e_abs, e_min, e_max, e_lent, e_lens, e_lenr, e_leno, e_sumt, e_sumr, e_sumo, e_ftup, e_tupo, e_apnd, e_clr, e_clro, e_gix, e_gi1, e_gi2, e_gi0, e_giB, e_tru, e_trub, e_isi, e_isir, fin_nx, fin_rt, fin_ex, b_bind, b_st, b_nx, b_thn, b_thr, b_thb, b_thc, List.getElem?_cons_zero, List.getElem?_cons_succ, List.set_cons_zero, List.set_cons_succ, decide_true, decide_false, Bool.not_true, Bool.not_false, List.cons_append, List.nil_append, List.length_map, eq_self, Int.reduceLT, Int.reduceLE, and_self, and_true, true_and, e_comp, get_last, Row.D, aj, Jt.D, s_gg]
        exact ⟨_, _, rfl, rfl, _, _, _, _, _, rfl, by omega, by omega, by omega⟩
      · have q1 : (r.j (s + i)).w = -b := by rw [hj]; rfl
        have q2 : (r.j (s + i)).m = 0 := by rw [hj]; rfl
        have q3 : (r.j (s + i)).l = 0 := by rw [hj]; rfl
        rw [hj] at aj
        simp only [lp__law_glue_0, e_var, e_vget, e_c, e_op, e_op1, e_un, e_nil, e_cons, e_cons1, e_cons2, e_a0, e_ka0, e_app, e_app1, e_app2, e_tup, kT1, kT2, kT3, kT4, kT5, kT7, e_lst, kL0, kL1, kL2, kL3, kL4, kL5, e_test, e_ktest, e_and, e_andT, e_andF, e_or, e_orT, e_orF, e_not, e_knot, e_if, e_ifT, e_ifF, e_andv, e_andvT, e_andvF, e_orv, e_orvT, e_orvF, e_notv, e_knotv, e_ch, e_ch1, e_ch2, e_ch3T, e_ch3F, e_cb, e_call, e_make, e_fld, e_kfld, e_setf, e_setf1, e_setf2, e_seq, e_next, e_break, e_cont, e_expr, e_nx, e_ret, e_rt, e_retn, e_ifs, e_ifsT, e_ifsF, e_set, e_kset, e_asg, e_kasg, e_as2, e_gn, e_gtp, e_gto, e_gs0, e_gs1, e_for, e_rng1, e_rng2, e_srca, e_srcr, e_srco, e_srct, e_srcs, e_nop, e_part, e_kpart, e_sl, e_sl1, e_sl2, e_dslt, e_bm, e_kbm, e_bmo, e_add, e_sub, e_own1, e_mull, e_mulr, e_div, e_mod, e_neg, e_lt, e_gt, e_le, e_ge, e_eq, e_ne, e_eqs, e_eqb, e_ixt, e_ixs, e_ixr, e_ixo, e_ixR, at0, at1, at2, at3, at4, at5, at6, e_int, e_intT, e_intF, e_abs, e_min, e_max, e_lent, e_lens, e_lenr, e_leno, e_sumt, e_sumr, e_sumo, e_ftup, e_tupo, e_apnd, e_clr, e_clro, e_gix, e_gi1, e_gi2, e_gi0, e_giB, e_tru, e_trub, e_isi, e_isir, fin_nx, fin_rt, fin_ex, b_bind, b_st, b_nx, b_thn, b_thr, b_thb, b_thc, List.getElem?_cons_zero, List.getElem?_cons_succ, List.set_cons_zero, List.set_cons_succ, decide_true, decide_false, Bool.not_true, Bool.not_false, List.cons_append, List.nil_append, List.length_map, eq_self, Int.reduceLT, Int.reduceLE, and_self, and_true, true_and, e_comp, get_last, Row.D, aj, Jt.D, s_hg]
        exact ⟨_, _, rfl, rfl, _, _, _, _, _, rfl, by omega, by omega, by omega⟩)
  rw [show s + ((e : Int) - 1 - s).toNat = e - 1 by omega] at ha hb hc
  simp only [Row.D] at ef
  simp only [ef, e_var, e_vget, e_c, e_op, e_op1, e_un, e_nil, e_cons, e_cons1, e_cons2, e_a0, e_ka0, e_app, e_app1, e_app2, e_tup, kT1, kT2, kT3, kT4, kT5, kT7, e_lst, kL0, kL1, kL2, kL3, kL4, kL5, e_test, e_ktest, e_and, e_andT, e_andF, e_or, e_orT, e_orF, e_not, e_knot, e_if, e_ifT, e_ifF, e_andv, e_andvT, e_andvF, e_orv, e_orvT, e_orvF, e_notv, e_knotv, e_ch, e_ch1, e_ch2, e_ch3T, e_ch3F, e_cb, e_call, e_make, e_fld, e_kfld, e_setf, e_setf1, e_setf2, e_seq, e_next, e_break, e_cont, e_expr, e_nx, e_ret, e_rt, e_retn, e_ifs, e_ifsT, e_ifsF, e_set, e_kset, e_asg, e_kasg, e_as2, e_gn, e_gtp, e_gto, e_gs0, e_gs1, e_for, e_rng1, e_rng2, e_srca, e_srcr, e_srco, e_srct, e_srcs, e_nop, e_part, e_kpart, e_sl, e_sl1, e_sl2, e_dslt, e_bm, e_kbm, e_bmo, e_add, e_sub, e_own1, e_mull, e_mulr, e_div, e_mod, e_neg, e_lt, e_gt, e_le, e_ge, e_eq, e_ne, e_eqs, e_eqb, e_ixt, e_ixs, e_ixr, e_ixo, e_ixR, at0, at1, at2, at3, at4, at5, at6, e_int, e_intT, e_intF, e_abs, e_min, e_max, e_lent, e_lens, e_lenr, e_leno, e_sumt, e_sumr, e_sumo, e_ftup, e_tupo, e_apnd, e_clr, e_clro, e_gix, e_gi1, e_gi2, e_gi0, e_giB, e_tru, e_trub, e_isi, e_isir, fin_nx, fin_rt, fin_ex, b_bind, b_st, b_nx, b_thn, b_thr, b_thb, b_thc, List.getElem?_cons_zero, List.getElem?_cons_succ, List.set_cons_zero, List.set_cons_succ, decide_true, decide_false, Bool.not_true, Bool.not_false, List.cons_append, List.nil_append, List.length_map, eq_self, Int.reduceLT, Int.reduceLE, and_self, and_true, true_and, e_comp, get_last, lp__law_glue_2, lp__law_glue_1, Row.D, List.length_map]
  by_cases he : e < r.ws.length
  · have aj := ok.atj (i := e - 1) (by omega)
    rw [show ((e - 1 : Nat) : Int) = (e : Int) - 1 by omega] at aj
    have hi : (e : Int) < (r.ws.length : Int) := by omega
    rcases hj : r.j (e - 1) with ⟨w, m, l⟩ | ⟨m, b⟩
    · rw [hj] at aj
      simp only [hi, e_var, e_vget, e_c, e_op, e_op1, e_un, e_nil, e_cons, e_cons1, e_cons2, e_a0, e_ka0, e_app, e_app1, e_app2, e_tup, kT1, kT2, kT3, kT4, kT5, kT7, e_lst, kL0, kL1, kL2, kL3, kL4, kL5, e_test, e_ktest, e_and, e_andT, e_andF, e_or, e_orT, e_orF, e_not, e_knot, e_if, e_ifT, e_ifF, e_andv, e_andvT, e_andvF, e_orv, e_orvT, e_orvF, e_notv, e_knotv, e_ch, e_ch1, e_ch2, e_ch3T, e_ch3F, e_cb, e_call, e_make, e_fld, e_kfld, e_setf, e_setf1, e_setf2, e_seq, e_next, e_break, e_cont, e_expr, e_nx, e_ret, e_rt, e_retn, e_ifs, e_ifsT, e_ifsF, e_set, e_kset, e_asg, e_kasg, e_as2, e_gn, e_gtp, e_gto, e_gs0, e_gs1, e_for, e_rng1, e_rng2, e_srca, e_srcr, e_srco, e_srct, e_srcs, e_nop, e_part, e_kpart, e_sl, e_sl1, e_sl2, e_dslt, e_bm, e_kbm, e_bmo, e_add, e_sub, e_own1, e_mull, e_mulr, e_div, e_mod, e_neg, e_lt, e_gt, e_le, e_ge, e_eq, e_ne, e_eqs, e_eqb, e_ixt, e_ixs, e_ixr, e_ixo, e_ixR, at0, at1, at2, at3, at4, at5, at6, e_int, e_intT, e_intF, e_abs, e_min, e_max, e_lent, e_lens, e_lenr, e_leno, e_sumt, e_sumr, e_sumo, e_ftup, e_tupo, e_apnd, e_clr, e_clro, e_gix, e_gi1, e_gi2, e_gi0, e_giB, e_tru, e_trub, e_isi, e_isir, fin_nx, fin_rt, fin_ex, b_bind, b_st, b_nx, b_thn, b_thr, b_thb, b_thc, List.getElem?_cons_zero, List.getElem?_cons_succ, List.set_cons_zero, List.set_cons_succ, decide_true, decide_false, Bool.not_true, Bool.not_false, List.cons_append, List.nil_append, List.length_map, eq_self, Int.reduceLT, Int.reduceLE, and_self, and_true, true_and, e_comp, get_last, aj, Jt.D, s_gh]
      unfold gW gM gL
      rw [if_pos he, hj, ha, hb, hc]; simp [Jt.h]
    · rw [hj] at aj
      simp only [hi, e_var, e_vget, e_c, e_op, e_op1, e_un, e_nil, e_cons, e_cons1, e_cons2, e_a0, e_ka0, e_app, e_app1, e_app2, e_tup, kT1, kT2, kT3, kT4, kT5, kT7, e_lst, kL0, kL1, kL2, kL3, kL4, kL5, e_test, e_ktest, e_and, e_andT, e_andF, e_or, e_orT, e_orF, e_not, e_knot, e_if, e_ifT, e_ifF, e_andv, e_andvT, e_andvF, e_orv, e_orvT, e_orvF, e_notv, e_knotv, e_ch, e_ch1, e_ch2, e_ch3T, e_ch3F, e_cb, e_call, e_make, e_fld, e_kfld, e_setf, e_setf1, e_setf2, e_seq, e_next, e_break, e_cont, e_expr, e_nx, e_ret, e_rt, e_retn, e_ifs, e_ifsT, e_ifsF, e_set, e_kset, e_asg, e_kasg, e_as2, e_gn, e_gtp, e_gto, e_gs0, e_gs1, e_for, e_rng1, e_rng2, e_srca, e_srcr, e_srco, e_srct, e_srcs, e_nop, e_part, e_kpart, e_sl, e_sl1, e_sl2, e_dslt, e_bm, e_kbm, e_bmo, e_add, e_sub, e_own1, e_mull, e_mulr, e_div, e_mod, e_neg, e_lt, e_gt, e_le, e_ge, e_eq, e_ne, e_eqs, e_eqb, e_ixt, e_ixs, e_ixr, e_ixo, e_ixR, at0, at1, at2, at3, at4, at5, at6, e_int, e_intT, e_intF, e_abs, e_min, e_max, e_lent, e_lens, e_lenr, e_leno, e_sumt, e_sumr, e_sumo, e_ftup, e_tupo, e_apnd, e_clr, e_clro, e_gix, e_gi1, e_gi2, e_gi0, e_giB, e_tru, e_trub, e_isi, e_isir, fin_nx, fin_rt, fin_ex, b_bind, b_st, b_nx, b_thn, b_thr, b_thb, b_thc, List.getElem?_cons_zero, List.getElem?_cons_succ, List.set_cons_zero, List.set_cons_succ, decide_true, decide_false, Bool.not_true, Bool.not_false, List.cons_append, List.nil_append, List.length_map, eq_self, Int.reduceLT, Int.reduceLE, and_self, and_true, true_and, e_comp, get_last, aj, Jt.D, s_hh]
      unfold gW gM gL
      rw [if_pos he, hj, ha, hb, hc]; simp [Jt.h]
  · have hi : ¬ (e : Int) < (r.ws.length : Int) := by omega
    simp only [hi, e_var, e_vget, e_c, e_op, e_op1, e_un, e_nil, e_cons, e_cons1, e_cons2, e_a0, e_ka0, e_app, e_app1, e_app2, e_tup, kT1, kT2, kT3, kT4, kT5, kT7, e_lst, kL0, kL1, kL2, kL3, kL4, kL5, e_test, e_ktest, e_and, e_andT, e_andF, e_or, e_orT, e_orF, e_not, e_knot, e_if, e_ifT, e_ifF, e_andv, e_andvT, e_andvF, e_orv, e_orvT, e_orvF, e_notv, e_knotv, e_ch, e_ch1, e_ch2, e_ch3T, e_ch3F, e_cb, e_call, e_make, e_fld, e_kfld, e_setf, e_setf1, e_setf2, e_seq, e_next, e_break, e_cont, e_expr, e_nx, e_ret, e_rt, e_retn, e_ifs, e_ifsT, e_ifsF, e_set, e_kset, e_asg, e_kasg, e_as2, e_gn, e_gtp, e_gto, e_gs0, e_gs1, e_for, e_rng1, e_rng2, e_srca, e_srcr, e_srco, e_srct, e_srcs, e_nop, e_part, e_kpart, e_sl, e_sl1, e_sl2, e_dslt, e_bm, e_kbm, e_bmo, e_add, e_sub, e_own1, e_mull, e_mulr, e_div, e_mod, e_neg, e_lt, e_gt, e_le, e_ge, e_eq, e_ne, e_eqs, e_eqb, e_ixt, e_ixs, e_ixr, e_ixo, e_ixR, at0, at1, at2, at3, at4, at5, at6, e_int, e_intT, e_intF, e_abs, e_min, e_max, e_lent, e_lens, e_lenr, e_leno, e_sumt, e_sumr, e_sumo, e_ftup, e_tupo, e_apnd, e_clr, e_clro, e_gix, e_gi1, e_gi2, e_gi0, e_giB, e_tru, e_trub, e_isi, e_isir, fin_nx, fin_rt, fin_ex, b_bind, b_st, b_nx, b_thn, b_thr, b_thb, b_thc, List.getElem?_cons_zero, List.getElem?_cons_succ, List.set_cons_zero, List.set_cons_succ, decide_true, decide_false, Bool.not_true, Bool.not_false, List.cons_append, List.nil_append, List.length_map, eq_self, Int.reduceLT, Int.reduceLE, and_self, and_true, true_and, e_comp, get_last]
    unfold gW gM gL
    rw [if_neg he, ha, hb, hc]; simp
end DL
/-! the glue of a stretch, a line's key -/
namespace DL
open PySem PySem.Spec PyProof.Rows L2
/-! a line's key -/
def sideS : Bool → Str | true => "both" | false => "left"
structure Key where
  wide : Int
  ind : Int
  both : Bool
  hy : Int
  tw : Int
  rv : Int
  ls : Int
def Key.D (k : Key) : D := .tup [.int k.wide, .int k.ind, .str (sideS k.both), .int k.hy, .int k.tw, .int k.rv, .int k.ls]
structure Key.OK (k : Key) : Prop where

  i0 : 0 ≤ k.ind
  i1 : k.ind < 100
  h0 : 0 ≤ k.hy
  h1 : k.hy < 10000
  t0 : 0 ≤ k.tw
  t1 : k.tw < 10000
  r0 : 0 ≤ k.rv
  r1 : k.rv < 10
  l0 : 0 ≤ k.ls
  l1 : k.ls < 10
def inO (x : D) (o : Option DO) (hp : DH) : R D := match o with
  | some (.lst ds) => if flatD x = true ∧ ds.all flatD = true then .ok (.bl (inD x ds)) hp else .stuck
  | _ => .stuck
theorem e_inr {i : Int} {n : Nat} {hp : DH} : dIn false (.int i) (.ref n) hp = inO (.int i) hp[n]? hp := by
  unfold dIn inO itemsD
  rcases h : hp[n]? with _ | (xs | _ | _) <;> simp [h]
theorem in2 {i a b : Int} {hp : DH} : inO (.int i) (some (.lst [.int a, .int b])) hp = .ok (.bl (decide (a = i ∨ b = i))) hp := by
  simp [inO, flatD, inD, eqD0]
  rfl
theorem in4 {i a b c d : Int} {hp : DH} : inO (.int i) (some (.lst [.int a, .int b, .int c, .int d])) hp = .ok (.bl (decide (a = i ∨ b = i ∨ c = i ∨ d = i))) hp := by
  simp [inO, flatD, inD, eqD0]
  rfl
section
variable {p : Nat} {r : Row} {c : Int} {hp : DH} {a2 a3 a4 a5 a6 a7 a8 a9 a10 a11 a12 a13 a14 a15 : Option D} {wide ind one two rv ls : Int} {both : Bool}
theorem lk1 (h : PoolAt hp p c) (hc : c ≤ 2 ^ 40) (i0 : 0 ≤ ind) (i1 : ind < 100) (o0 : 0 ≤ one) (o1 : one < 10000) (t0 : 0 ≤ two) (t1 : two < 10000) (r0 : 0 ≤ rv) (r1 : rv < 10) (l0 : 0 ≤ ls) (l1 : ls < 10) :
    ∃ (k : Key) (hp' : DH), fin (lp__law_line_key_1 [some (.ref p), some r.D, a2, a3, a4, some (.int wide), a6, a7, a8, some (.int ind), some (.str (sideS both)), some (.int one), some (.int two), some (.int rv), some (.int ls), a15] hp) = .ok k.D hp' ∧ k.OK ∧ PoolAt hp' p (c + 10) ∧ Gr p hp hp' := by
  obtain ⟨v, hp1, e1, v1, v2, p1, g1, _⟩ := take_go h (m := 8) (by omega) (by omega) (by omega)
  simp only [lp__law_line_key_1, lp__law_line_key_0, e_var, e_vget, e_c, e_op, e_op1, e_un, e_nil, e_cons, e_cons1, e_cons2, e_a0, e_ka0, e_app, e_app1, e_app2, e_tup, kT1, kT2, kT3, kT4, kT5, kT7, e_lst, kL0, kL1, kL2, kL3, kL4, kL5, e_test, e_ktest, e_and, e_andT, e_andF, e_or, e_orT, e_orF, e_not, e_knot, e_if, e_ifT, e_ifF, e_andv, e_andvT, e_andvF, e_orv, e_orvT, e_orvF, e_notv, e_knotv, e_ch, e_ch1, e_ch2, e_ch3T, e_ch3F, e_cb, e_call, e_make, e_fld, e_kfld, e_setf, e_setf1, e_setf2, e_seq, e_next, e_break, e_cont, e_expr, e_nx, e_ret, e_rt, e_retn, e_ifs, e_ifsT, e_ifsF, e_set, e_kset, e_asg, e_kasg, e_as2, e_gn, e_gtp, e_gto, e_gs0, e_gs1, e_for, e_rng1, e_rng2, e_srca, e_srcr, e_srco, e_srct, e_srcs, e_nop, e_part, e_kpart, e_sl, e_sl1, e_sl2, e_dslt, e_bm, e_kbm, e_bmo, e_add, e_sub, e_own1, e_mull, e_mulr, e_div, e_mod, e_neg, e_lt, e_gt, e_le, e_ge, e_eq, e_ne, e_eqs, e_eqb, e_ixt, e_ixs, e_ixr, e_ixo, e_ixR, at0, at1, at2, at3, at4, at5, at6, e_int, e_intT, e_intF, e_abs, e_min, e_max, e_lent, e_lens, e_lenr, e_leno, e_sumt, e_sumr, e_sumo, e_ftup, e_tupo, e_apnd, e_clr, e_clro, e_gix, e_gi1, e_gi2, e_gi0, e_giB, e_tru, e_trub, e_isi, e_isir, fin_nx, fin_rt, fin_ex, b_bind, b_st, b_nx, b_thn, b_thr, b_thb, b_thc, List.getElem?_cons_zero, List.getElem?_cons_succ, List.set_cons_zero, List.set_cons_succ, decide_true, decide_false, Bool.not_true, Bool.not_false, List.cons_append, List.nil_append, List.length_map, eq_self, Int.reduceLT, Int.reduceLE, and_self, and_true, true_and, e_comp, get_last, Row.D, List.length_map]
  by_cases h12 : (12 : Int) < (r.ws.length : Int)
  · simp only [h12, e_var, e_vget, e_c, e_op, e_op1, e_un, e_nil, e_cons, e_cons1, e_cons2, e_a0, e_ka0, e_app, e_app1, e_app2, e_tup, kT1, kT2, kT3, kT4, kT5, kT7, e_lst, kL0, kL1, kL2, kL3, kL4, kL5, e_test, e_ktest, e_and, e_andT, e_andF, e_or, e_orT, e_orF, e_not, e_knot, e_if, e_ifT, e_ifF, e_andv, e_andvT, e_andvF, e_orv, e_orvT, e_orvF, e_notv, e_knotv, e_ch, e_ch1, e_ch2, e_ch3T, e_ch3F, e_cb, e_call, e_make, e_fld, e_kfld, e_setf, e_setf1, e_setf2, e_seq, e_next, e_break, e_cont, e_expr, e_nx, e_ret, e_rt, e_retn, e_ifs, e_ifsT, e_ifsF, e_set, e_kset, e_asg, e_kasg, e_as2, e_gn, e_gtp, e_gto, e_gs0, e_gs1, e_for, e_rng1, e_rng2, e_srca, e_srcr, e_srco, e_srct, e_srcs, e_nop, e_part, e_kpart, e_sl, e_sl1, e_sl2, e_dslt, e_bm, e_kbm, e_bmo, e_add, e_sub, e_own1, e_mull, e_mulr, e_div, e_mod, e_neg, e_lt, e_gt, e_le, e_ge, e_eq, e_ne, e_eqs, e_eqb, e_ixt, e_ixs, e_ixr, e_ixo, e_ixR, at0, at1, at2, at3, at4, at5, at6, e_int, e_intT, e_intF, e_abs, e_min, e_max, e_lent, e_lens, e_lenr, e_leno, e_sumt, e_sumr, e_sumo, e_ftup, e_tupo, e_apnd, e_clr, e_clro, e_gix, e_gi1, e_gi2, e_gi0, e_giB, e_tru, e_trub, e_isi, e_isir, fin_nx, fin_rt, fin_ex, b_bind, b_st, b_nx, b_thn, b_thr, b_thb, b_thc, List.getElem?_cons_zero, List.getElem?_cons_succ, List.set_cons_zero, List.set_cons_succ, decide_true, decide_false, Bool.not_true, Bool.not_false, List.cons_append, List.nil_append, List.length_map, eq_self, Int.reduceLT, Int.reduceLE, and_self, and_true, true_and, e_comp, get_last, e1]
    by_cases hv : 0 < v
    · simp only [hv, e_var, e_vget, e_c, e_op, e_op1, e_un, e_nil, e_cons, e_cons1, e_cons2, e_a0, e_ka0, e_app, e_app1, e_app2, e_tup, kT1, kT2, kT3, kT4, kT5, kT7, e_lst, kL0, kL1, kL2, kL3, kL4, kL5, e_test, e_ktest, e_and, e_andT, e_andF, e_or, e_orT, e_orF, e_not, e_knot, e_if, e_ifT, e_ifF, e_andv, e_andvT, e_andvF, e_orv, e_orvT, e_orvF, e_notv, e_knotv, e_ch, e_ch1, e_ch2, e_ch3T, e_ch3F, e_cb, e_call, e_make, e_fld, e_kfld, e_setf, e_setf1, e_setf2, e_seq, e_next, e_break, e_cont, e_expr, e_nx, e_ret, e_rt, e_retn, e_ifs, e_ifsT, e_ifsF, e_set, e_kset, e_asg, e_kasg, e_as2, e_gn, e_gtp, e_gto, e_gs0, e_gs1, e_for, e_rng1, e_rng2, e_srca, e_srcr, e_srco, e_srct, e_srcs, e_nop, e_part, e_kpart, e_sl, e_sl1, e_sl2, e_dslt, e_bm, e_kbm, e_bmo, e_add, e_sub, e_own1, e_mull, e_mulr, e_div, e_mod, e_neg, e_lt, e_gt, e_le, e_ge, e_eq, e_ne, e_eqs, e_eqb, e_ixt, e_ixs, e_ixr, e_ixo, e_ixR, at0, at1, at2, at3, at4, at5, at6, e_int, e_intT, e_intF, e_abs, e_min, e_max, e_lent, e_lens, e_lenr, e_leno, e_sumt, e_sumr, e_sumo, e_ftup, e_tupo, e_apnd, e_clr, e_clro, e_gix, e_gi1, e_gi2, e_gi0, e_giB, e_tru, e_trub, e_isi, e_isir, fin_nx, fin_rt, fin_ex, b_bind, b_st, b_nx, b_thn, b_thr, b_thb, b_thc, List.getElem?_cons_zero, List.getElem?_cons_succ, List.set_cons_zero, List.set_cons_succ, decide_true, decide_false, Bool.not_true, Bool.not_false, List.cons_append, List.nil_append, List.length_map, eq_self, Int.reduceLT, Int.reduceLE, and_self, and_true, true_and, e_comp, get_last]
      exact ⟨⟨_, ind, both, one, two, 0, ls⟩, _, rfl, ⟨i0, i1, o0, o1, t0, t1, by simp, by simp, l0, l1⟩, p1.le (by omega), g1⟩
    · simp only [hv, e_var, e_vget, e_c, e_op, e_op1, e_un, e_nil, e_cons, e_cons1, e_cons2, e_a0, e_ka0, e_app, e_app1, e_app2, e_tup, kT1, kT2, kT3, kT4, kT5, kT7, e_lst, kL0, kL1, kL2, kL3, kL4, kL5, e_test, e_ktest, e_and, e_andT, e_andF, e_or, e_orT, e_orF, e_not, e_knot, e_if, e_ifT, e_ifF, e_andv, e_andvT, e_andvF, e_orv, e_orvT, e_orvF, e_notv, e_knotv, e_ch, e_ch1, e_ch2, e_ch3T, e_ch3F, e_cb, e_call, e_make, e_fld, e_kfld, e_setf, e_setf1, e_setf2, e_seq, e_next, e_break, e_cont, e_expr, e_nx, e_ret, e_rt, e_retn, e_ifs, e_ifsT, e_ifsF, e_set, e_kset, e_asg, e_kasg, e_as2, e_gn, e_gtp, e_gto, e_gs0, e_gs1, e_for, e_rng1, e_rng2, e_srca, e_srcr, e_srco, e_srct, e_srcs, e_nop, e_part, e_kpart, e_sl, e_sl1, e_sl2, e_dslt, e_bm, e_kbm, e_bmo, e_add, e_sub, e_own1, e_mull, e_mulr, e_div, e_mod, e_neg, e_lt, e_gt, e_le, e_ge, e_eq, e_ne, e_eqs, e_eqb, e_ixt, e_ixs, e_ixr, e_ixo, e_ixR, at0, at1, at2, at3, at4, at5, at6, e_int, e_intT, e_intF, e_abs, e_min, e_max, e_lent, e_lens, e_lenr, e_leno, e_sumt, e_sumr, e_sumo, e_ftup, e_tupo, e_apnd, e_clr, e_clro, e_gix, e_gi1, e_gi2, e_gi0, e_giB, e_tru, e_trub, e_isi, e_isir, fin_nx, fin_rt, fin_ex, b_bind, b_st, b_nx, b_thn, b_thr, b_thb, b_thc, List.getElem?_cons_zero, List.getElem?_cons_succ, List.set_cons_zero, List.set_cons_succ, decide_true, decide_false, Bool.not_true, Bool.not_false, List.cons_append, List.nil_append, List.length_map, eq_self, Int.reduceLT, Int.reduceLE, and_self, and_true, true_and, e_comp, get_last]
      exact ⟨⟨_, ind, both, one, two, rv, ls⟩, _, rfl, ⟨i0, i1, o0, o1, t0, t1, r0, r1, l0, l1⟩, p1.le (by omega), g1⟩
  · simp only [h12, e_var, e_vget, e_c, e_op, e_op1, e_un, e_nil, e_cons, e_cons1, e_cons2, e_a0, e_ka0, e_app, e_app1, e_app2, e_tup, kT1, kT2, kT3, kT4, kT5, kT7, e_lst, kL0, kL1, kL2, kL3, kL4, kL5, e_test, e_ktest, e_and, e_andT, e_andF, e_or, e_orT, e_orF, e_not, e_knot, e_if, e_ifT, e_ifF, e_andv, e_andvT, e_andvF, e_orv, e_orvT, e_orvF, e_notv, e_knotv, e_ch, e_ch1, e_ch2, e_ch3T, e_ch3F, e_cb, e_call, e_make, e_fld, e_kfld, e_setf, e_setf1, e_setf2, e_seq, e_next, e_break, e_cont, e_expr, e_nx, e_ret, e_rt, e_retn, e_ifs, e_ifsT, e_ifsF, e_set, e_kset, e_asg, e_kasg, e_as2, e_gn, e_gtp, e_gto, e_gs0, e_gs1, e_for, e_rng1, e_rng2, e_srca, e_srcr, e_srco, e_srct, e_srcs, e_nop, e_part, e_kpart, e_sl, e_sl1, e_sl2, e_dslt, e_bm, e_kbm, e_bmo, e_add, e_sub, e_own1, e_mull, e_mulr, e_div, e_mod, e_neg, e_lt, e_gt, e_le, e_ge, e_eq, e_ne, e_eqs, e_eqb, e_ixt, e_ixs, e_ixr, e_ixo, e_ixR, at0, at1, at2, at3, at4, at5, at6, e_int, e_intT, e_intF, e_abs, e_min, e_max, e_lent, e_lens, e_lenr, e_leno, e_sumt, e_sumr, e_sumo, e_ftup, e_tupo, e_apnd, e_clr, e_clro, e_gix, e_gi1, e_gi2, e_gi0, e_giB, e_tru, e_trub, e_isi, e_isir, fin_nx, fin_rt, fin_ex, b_bind, b_st, b_nx, b_thn, b_thr, b_thb, b_thc, List.getElem?_cons_zero, List.getElem?_cons_succ, List.set_cons_zero, List.set_cons_succ, decide_true, decide_false, Bool.not_true, Bool.not_false, List.cons_append, List.nil_append, List.length_map, eq_self, Int.reduceLT, Int.reduceLE, and_self, and_true, true_and, e_comp, get_last]
    exact ⟨⟨_, ind, both, one, two, rv, ls⟩, _, rfl, ⟨i0, i1, o0, o1, t0, t1, r0, r1, l0, l1⟩, h.le (by omega), Gr.refl _ _⟩
theorem lk2 (h : PoolAt hp p c) (hc : c ≤ 2 ^ 39) (i0 : 0 ≤ ind) (i1 : ind < 100) (o0 : 0 ≤ one) (o1 : one < 10000) (t0 : 0 ≤ two) (t1 : two < 10000) :
    ∃ (k : Key) (hp' : DH), fin (lp__law_line_key_2 [some (.ref p), some r.D, a2, a3, a4, some (.int wide), a6, a7, a8, some (.int ind), some (.str (sideS both)), some (.int one), some (.int two), a13, a14, a15] hp) = .ok k.D hp' ∧ k.OK ∧ PoolAt hp' p (c + 20) ∧ Gr p hp hp' := by
  obtain ⟨v, hp1, e1, v1, v2, p1, g1, _⟩ := take_go h (m := 4) (by omega) (by omega) (by omega)
  obtain ⟨u, hp2, e2, u1, u2, p2, g2, _⟩ := take_go p1 (m := 4) (by omega) (by omega) (by omega)
  obtain ⟨t, hp3, e3, t1', t2, p3, g3, _⟩ := take_go p2 (m := 8) (by omega) (by omega) (by omega)
  simp only [lp__law_line_key_2, e_var, e_vget, e_c, e_op, e_op1, e_un, e_nil, e_cons, e_cons1, e_cons2, e_a0, e_ka0, e_app, e_app1, e_app2, e_tup, kT1, kT2, kT3, kT4, kT5, kT7, e_lst, kL0, kL1, kL2, kL3, kL4, kL5, e_test, e_ktest, e_and, e_andT, e_andF, e_or, e_orT, e_orF, e_not, e_knot, e_if, e_ifT, e_ifF, e_andv, e_andvT, e_andvF, e_orv, e_orvT, e_orvF, e_notv, e_knotv, e_ch, e_ch1, e_ch2, e_ch3T, e_ch3F, e_cb, e_call, e_make, e_fld, e_kfld, e_setf, e_setf1, e_setf2, e_seq, e_next, e_break, e_cont, e_expr, e_nx, e_ret, e_rt, e_retn, e_ifs, e_ifsT, e_ifsF, e_set, e_kset, e_asg, e_kasg, e_as2, e_gn, e_gtp, e_gto, e_gs0, e_gs1, e_for, e_rng1, e_rng2, e_srca, e_srcr, e_srco, e_srct, e_srcs, e_nop, e_part, e_kpart, e_sl, e_sl1, e_sl2, e_dslt, e_bm, e_kbm, e_bmo, e_add, e_sub, e_own1, e_mull, e_mulr, e_div, e_mod, e_neg, e_lt, e_gt, e_le, e_ge, e_eq, e_ne, e_eqs, e_eqb, e_ixt, e_ixs, e_ixr, e_ixo, e_ixR, at0, at1, at2, at3, at4, at5, at6, e_int, e_intT, e_intF, e_abs, e_min, e_max, e_lent, e_lens, e_lenr, e_leno, e_sumt, e_sumr, e_sumo, e_ftup, e_tupo, e_apnd, e_clr, e_clro, e_gix, e_gi1, e_gi2, e_gi0, e_giB, e_tru, e_trub, e_isi, e_isir, fin_nx, fin_rt, fin_ex, b_bind, b_st, b_nx, b_thn, b_thr, b_thb, b_thc, List.getElem?_cons_zero, List.getElem?_cons_succ, List.set_cons_zero, List.set_cons_succ, decide_true, decide_false, Bool.not_true, Bool.not_false, List.cons_append, List.nil_append, List.length_map, eq_self, Int.reduceLT, Int.reduceLE, and_self, and_true, true_and, e_comp, get_last, e1, e2, e3]
  by_cases ht : t = 7
  · obtain ⟨x, hp4, e4, x1, x2, p4, g4, _⟩ := take_go p3 (m := 10) (by omega) (by omega) (by omega)
    obtain ⟨y, hp5, e5, y1, y2, p5, g5, _⟩ := take_go p4 (m := 10) (by omega) (by omega) (by omega)
    simp only [ht, e_var, e_vget, e_c, e_op, e_op1, e_un, e_nil, e_cons, e_cons1, e_cons2, e_a0, e_ka0, e_app, e_app1, e_app2, e_tup, kT1, kT2, kT3, kT4, kT5, kT7, e_lst, kL0, kL1, kL2, kL3, kL4, kL5, e_test, e_ktest, e_and, e_andT, e_andF, e_or, e_orT, e_orF, e_not, e_knot, e_if, e_ifT, e_ifF, e_andv, e_andvT, e_andvF, e_orv, e_orvT, e_orvF, e_notv, e_knotv, e_ch, e_ch1, e_ch2, e_ch3T, e_ch3F, e_cb, e_call, e_make, e_fld, e_kfld, e_setf, e_setf1, e_setf2, e_seq, e_next, e_break, e_cont, e_expr, e_nx, e_ret, e_rt, e_retn, e_ifs, e_ifsT, e_ifsF, e_set, e_kset, e_asg, e_kasg, e_as2, e_gn, e_gtp, e_gto, e_gs0, e_gs1, e_for, e_rng1, e_rng2, e_srca, e_srcr, e_srco, e_srct, e_srcs, e_nop, e_part, e_kpart, e_sl, e_sl1, e_sl2, e_dslt, e_bm, e_kbm, e_bmo, e_add, e_sub, e_own1, e_mull, e_mulr, e_div, e_mod, e_neg, e_lt, e_gt, e_le, e_ge, e_eq, e_ne, e_eqs, e_eqb, e_ixt, e_ixs, e_ixr, e_ixo, e_ixR, at0, at1, at2, at3, at4, at5, at6, e_int, e_intT, e_intF, e_abs, e_min, e_max, e_lent, e_lens, e_lenr, e_leno, e_sumt, e_sumr, e_sumo, e_ftup, e_tupo, e_apnd, e_clr, e_clro, e_gix, e_gi1, e_gi2, e_gi0, e_giB, e_tru, e_trub, e_isi, e_isir, fin_nx, fin_rt, fin_ex, b_bind, b_st, b_nx, b_thn, b_thr, b_thb, b_thc, List.getElem?_cons_zero, List.getElem?_cons_succ, List.set_cons_zero, List.set_cons_succ, decide_true, decide_false, Bool.not_true, Bool.not_false, List.cons_append, List.nil_append, List.length_map, eq_self, Int.reduceLT, Int.reduceLE, and_self, and_true, true_and, e_comp, get_last, e4, e5]
    obtain ⟨k, hp6, e6, ok, p6, g6⟩ := lk1 (r := r) (a2 := a2) (a3 := a3) (a4 := a4) (a6 := a6) (a7 := a7) (a8 := a8) (a15 := a15) (wide := wide) (both := both) p5 (by omega) i0 i1 o0 o1 t0 t1 x1 x2 y1 y2
    exact ⟨k, hp6, e6, ok, p6.le (by omega), g1.trans (g2.trans (g3.trans (g4.trans (g5.trans g6))))⟩
  · simp only [ht, e_var, e_vget, e_c, e_op, e_op1, e_un, e_nil, e_cons, e_cons1, e_cons2, e_a0, e_ka0, e_app, e_app1, e_app2, e_tup, kT1, kT2, kT3, kT4, kT5, kT7, e_lst, kL0, kL1, kL2, kL3, kL4, kL5, e_test, e_ktest, e_and, e_andT, e_andF, e_or, e_orT, e_orF, e_not, e_knot, e_if, e_ifT, e_ifF, e_andv, e_andvT, e_andvF, e_orv, e_orvT, e_orvF, e_notv, e_knotv, e_ch, e_ch1, e_ch2, e_ch3T, e_ch3F, e_cb, e_call, e_make, e_fld, e_kfld, e_setf, e_setf1, e_setf2, e_seq, e_next, e_break, e_cont, e_expr, e_nx, e_ret, e_rt, e_retn, e_ifs, e_ifsT, e_ifsF, e_set, e_kset, e_asg, e_kasg, e_as2, e_gn, e_gtp, e_gto, e_gs0, e_gs1, e_for, e_rng1, e_rng2, e_srca, e_srcr, e_srco, e_srct, e_srcs, e_nop, e_part, e_kpart, e_sl, e_sl1, e_sl2, e_dslt, e_bm, e_kbm, e_bmo, e_add, e_sub, e_own1, e_mull, e_mulr, e_div, e_mod, e_neg, e_lt, e_gt, e_le, e_ge, e_eq, e_ne, e_eqs, e_eqb, e_ixt, e_ixs, e_ixr, e_ixo, e_ixR, at0, at1, at2, at3, at4, at5, at6, e_int, e_intT, e_intF, e_abs, e_min, e_max, e_lent, e_lens, e_lenr, e_leno, e_sumt, e_sumr, e_sumo, e_ftup, e_tupo, e_apnd, e_clr, e_clro, e_gix, e_gi1, e_gi2, e_gi0, e_giB, e_tru, e_trub, e_isi, e_isir, fin_nx, fin_rt, fin_ex, b_bind, b_st, b_nx, b_thn, b_thr, b_thb, b_thc, List.getElem?_cons_zero, List.getElem?_cons_succ, List.set_cons_zero, List.set_cons_succ, decide_true, decide_false, Bool.not_true, Bool.not_false, List.cons_append, List.nil_append, List.length_map, eq_self, Int.reduceLT, Int.reduceLE, and_self, and_true, true_and, e_comp, get_last]
    obtain ⟨k, hp6, e6, ok, p6, g6⟩ := lk1 (r := r) (a2 := a2) (a3 := a3) (a4 := a4) (a6 := a6) (a7 := a7) (a8 := a8) (a15 := a15) (wide := wide) (both := both) p3 (by omega) i0 i1 o0 o1 t0 t1 v1 (show v < 10 by omega) u1 (show u < 10 by omega)
    exact ⟨k, hp6, e6, ok, p6.le (by omega), g1.trans (g2.trans (g3.trans g6))⟩
theorem lk3 (h : PoolAt hp p c) (hc : c ≤ 2 ^ 38) :
    ∃ (k : Key) (hp' : DH), fin (lp__law_line_key_3 [some (.ref p), some r.D, a2, a3, a4, some (.int wide), a6, a7, a8, a9, a10, a11, a12, a13, a14, a15] hp) = .ok k.D hp' ∧ k.OK ∧ PoolAt hp' p (c + 40) ∧ Gr p hp hp' := by
  obtain ⟨v, hp1, e1, v1, v2, p1, g1, _⟩ := take_go (h.app (e := [.lst [.int 1, .int 1, .int 12, .int 100]])) (m := 4) (by omega) (by omega) (by omega)
  obtain ⟨re, i1, i1a, i1b⟩ : ∃ m, atI [D.int 1, D.int 1, D.int 12, D.int 100] v = some (.int m) ∧ 1 ≤ m ∧ m ≤ 100 := by
    obtain rfl | rfl | rfl | rfl : v = 0 ∨ v = 1 ∨ v = 2 ∨ v = 3 := by omega
    · exact ⟨_, at0, by omega, by omega⟩
    · exact ⟨_, at1, by omega, by omega⟩
    · exact ⟨_, at2, by omega, by omega⟩
    · exact ⟨_, at3, by omega, by omega⟩
  have al := g1.get (n := hp.length) get_last (by have := h.lt; omega)
  obtain ⟨u, hp2, e2, u1, u2, p2, g2, _⟩ := take_go p1 (m := re) (by omega) (by omega) (by omega)
  obtain ⟨t, hp3, e3, t1, t2, p3, g3, _⟩ := take_go (p2.app (e := [.lst [.str "both", .str "both", .str "left"]])) (m := 3) (by omega) (by omega) (by omega)
  have al2 := g3.get (n := hp2.length) get_last (by have := p2.lt; omega)
  obtain ⟨both, i2⟩ : ∃ both, atI [D.str "both", D.str "both", D.str "left"] t = some (.str (sideS both)) := by
    obtain rfl | rfl | rfl : t = 0 ∨ t = 1 ∨ t = 2 := by omega
    · exact ⟨true, at0⟩
    · exact ⟨true, at1⟩
    · exact ⟨false, at2⟩
  obtain ⟨x, hp4, e4, x1, x2, p4, g4, _⟩ := take_go p3 (m := 4) (by omega) (by omega) (by omega)
  obtain ⟨y, hp5, e5, y1, y2, p5, g5, _⟩ := take_go p4 (m := 4) (by omega) (by omega) (by omega)
  obtain ⟨z, hp6, e6, z1, z2, p6, g6, _⟩ := take_go p5 (m := 8) (by omega) (by omega) (by omega)
  have gg : Gr p hp hp6 := (Px.app _ _).gr.trans (g1.trans (g2.trans ((Px.app _ _).gr.trans (g3.trans (g4.trans (g5.trans g6))))))
  simp only [lp__law_line_key_3, e_var, e_vget, e_c, e_op, e_op1, e_un, e_nil, e_cons, e_cons1, e_cons2, e_a0, e_ka0, e_app, e_app1, e_app2, e_tup, kT1, kT2, kT3, kT4, kT5, kT7, e_lst, kL0, kL1, kL2, kL3, kL4, kL5, e_test, e_ktest, e_and, e_andT, e_andF, e_or, e_orT, e_orF, e_not, e_knot, e_if, e_ifT, e_ifF, e_andv, e_andvT, e_andvF, e_orv, e_orvT, e_orvF, e_notv, e_knotv, e_ch, e_ch1, e_ch2, e_ch3T, e_ch3F, e_cb, e_call, e_make, e_fld, e_kfld, e_setf, e_setf1, e_setf2, e_seq, e_next, e_break, e_cont, e_expr, e_nx, e_ret, e_rt, e_retn, e_ifs, e_ifsT, e_ifsF, e_set, e_kset, e_asg, e_kasg, e_as2, e_gn, e_gtp, e_gto, e_gs0, e_gs1, e_for, e_rng1, e_rng2, e_srca, e_srcr, e_srco, e_srct, e_srcs, e_nop, e_part, e_kpart, e_sl, e_sl1, e_sl2, e_dslt, e_bm, e_kbm, e_bmo, e_add, e_sub, e_own1, e_mull, e_mulr, e_div, e_mod, e_neg, e_lt, e_gt, e_le, e_ge, e_eq, e_ne, e_eqs, e_eqb, e_ixt, e_ixs, e_ixr, e_ixo, e_ixR, at0, at1, at2, at3, at4, at5, at6, e_int, e_intT, e_intF, e_abs, e_min, e_max, e_lent, e_lens, e_lenr, e_leno, e_sumt, e_sumr, e_sumo, e_ftup, e_tupo, e_apnd, e_clr, e_clro, e_gix, e_gi1, e_gi2, e_gi0, e_giB, e_tru, e_trub, e_isi, e_isir, fin_nx, fin_rt, fin_ex, b_bind, b_st, b_nx, b_thn, b_thr, b_thb, b_thc, List.getElem?_cons_zero, List.getElem?_cons_succ, List.set_cons_zero, List.set_cons_succ, decide_true, decide_false, Bool.not_true, Bool.not_false, List.cons_append, List.nil_append, List.length_map, eq_self, Int.reduceLT, Int.reduceLE, and_self, and_true, true_and, e_comp, get_last, e1, al, i1, e2, e3, al2, i2, e4, e5, e6]
  by_cases hz : z = 7
  · obtain ⟨x', hp7, e7, x1', x2', p7, g7, _⟩ := take_go p6 (m := 10000) (by omega) (by omega) (by omega)
    obtain ⟨y', hp8, e8, y1', y2', p8, g8, _⟩ := take_go p7 (m := 10000) (by omega) (by omega) (by omega)
    simp only [hz, e_var, e_vget, e_c, e_op, e_op1, e_un, e_nil, e_cons, e_cons1, e_cons2, e_a0, e_ka0, e_app, e_app1, e_app2, e_tup, kT1, kT2, kT3, kT4, kT5, kT7, e_lst, kL0, kL1, kL2, kL3, kL4, kL5, e_test, e_ktest, e_and, e_andT, e_andF, e_or, e_orT, e_orF, e_not, e_knot, e_if, e_ifT, e_ifF, e_andv, e_andvT, e_andvF, e_orv, e_orvT, e_orvF, e_notv, e_knotv, e_ch, e_ch1, e_ch2, e_ch3T, e_ch3F, e_cb, e_call, e_make, e_fld, e_kfld, e_setf, e_setf1, e_setf2, e_seq, e_next, e_break, e_cont, e_expr, e_nx, e_ret, e_rt, e_retn, e_ifs, e_ifsT, e_ifsF, e_set, e_kset, e_asg, e_kasg, e_as2, e_gn, e_gtp, e_gto, e_gs0, e_gs1, e_for, e_rng1, e_rng2, e_srca, e_srcr, e_srco, e_srct, e_srcs, e_nop, e_part, e_kpart, e_sl, e_sl1, e_sl2, e_dslt, e_bm, e_kbm, e_bmo, e_add, e_sub, e_own1, e_mull, e_mulr, e_div, e_mod, e_neg, e_lt, e_gt, e_le, e_ge, e_eq, e_ne, e_eqs, e_eqb, e_ixt, e_ixs, e_ixr, e_ixo, e_ixR, at0, at1, at2, at3, at4, at5, at6, e_int, e_intT, e_intF, e_abs, e_min, e_max, e_lent, e_lens, e_lenr, e_leno, e_sumt, e_sumr, e_sumo, e_ftup, e_tupo, e_apnd, e_clr, e_clro, e_gix, e_gi1, e_gi2, e_gi0, e_giB, e_tru, e_trub, e_isi, e_isir, fin_nx, fin_rt, fin_ex, b_bind, b_st, b_nx, b_thn, b_thr, b_thb, b_thc, List.getElem?_cons_zero, List.getElem?_cons_succ, List.set_cons_zero, List.set_cons_succ, decide_true, decide_false, Bool.not_true, Bool.not_false, List.cons_append, List.nil_append, List.length_map, eq_self, Int.reduceLT, Int.reduceLE, and_self, and_true, true_and, e_comp, get_last, e7, e8]
    obtain ⟨k, hp9, e9, ok, p9, g9⟩ := lk2 (r := r) (a2 := a2) (a3 := a3) (a4 := a4) (a6 := a6) (a7 := a7) (a8 := some (.int re)) (a13 := a13) (a14 := a14) (a15 := a15) (wide := wide) (both := both) p8 (by omega) u1 (show u < 100 by omega) x1' x2' y1' y2'
    exact ⟨k, hp9, e9, ok, p9.le (by omega), gg.trans (g7.trans (g8.trans g9))⟩
  · simp only [hz, e_var, e_vget, e_c, e_op, e_op1, e_un, e_nil, e_cons, e_cons1, e_cons2, e_a0, e_ka0, e_app, e_app1, e_app2, e_tup, kT1, kT2, kT3, kT4, kT5, kT7, e_lst, kL0, kL1, kL2, kL3, kL4, kL5, e_test, e_ktest, e_and, e_andT, e_andF, e_or, e_orT, e_orF, e_not, e_knot, e_if, e_ifT, e_ifF, e_andv, e_andvT, e_andvF, e_orv, e_orvT, e_orvF, e_notv, e_knotv, e_ch, e_ch1, e_ch2, e_ch3T, e_ch3F, e_cb, e_call, e_make, e_fld, e_kfld, e_setf, e_setf1, e_setf2, e_seq, e_next, e_break, e_cont, e_expr, e_nx, e_ret, e_rt, e_retn, e_ifs, e_ifsT, e_ifsF, e_set, e_kset, e_asg, e_kasg, e_as2, e_gn, e_gtp, e_gto, e_gs0, e_gs1, e_for, e_rng1, e_rng2, e_srca, e_srcr, e_srco, e_srct, e_srcs, e_nop, e_part, e_kpart, e_sl, e_sl1, e_sl2, e_dslt, e_bm, e_kbm, e_bmo, e_add, e_sub, e_own1, e_mull, e_mulr, e_div, e_mod, e_neg, e_lt, e_gt, e_le, e_ge, e_eq, e_ne, e_eqs, e_eqb, e_ixt, e_ixs, e_ixr, e_ixo, e_ixR, at0, at1, at2, at3, at4, at5, at6, e_int, e_intT, e_intF, e_abs, e_min, e_max, e_lent, e_lens, e_lenr, e_leno, e_sumt, e_sumr, e_sumo, e_ftup, e_tupo, e_apnd, e_clr, e_clro, e_gix, e_gi1, e_gi2, e_gi0, e_giB, e_tru, e_trub, e_isi, e_isir, fin_nx, fin_rt, fin_ex, b_bind, b_st, b_nx, b_thn, b_thr, b_thb, b_thc, List.getElem?_cons_zero, List.getElem?_cons_succ, List.set_cons_zero, List.set_cons_succ, decide_true, decide_false, Bool.not_true, Bool.not_false, List.cons_append, List.nil_append, List.length_map, eq_self, Int.reduceLT, Int.reduceLE, and_self, and_true, true_and, e_comp, get_last]
    obtain ⟨k, hp9, e9, ok, p9, g9⟩ := lk2 (r := r) (a2 := a2) (a3 := a3) (a4 := a4) (a6 := a6) (a7 := a7) (a8 := some (.int re)) (a13 := a13) (a14 := a14) (a15 := a15) (wide := wide) (both := both) p6 (by omega) u1 (show u < 100 by omega) (show 0 ≤ 25 * x by omega) (show 25 * x < 10000 by omega) (show 0 ≤ 50 * y by omega) (show 50 * y < 10000 by omega)
    exact ⟨k, hp9, e9, ok, p9.le (by omega), gg.trans g9⟩
theorem lk4 (h : PoolAt hp p c) (hc : c ≤ 2 ^ 37) {sort : Int} :
    ∃ (k : Key) (hp' : DH), fin (lp__law_line_key_4 [some (.ref p), some r.D, a2, a3, some (.int sort), some (.int wide), a6, a7, a8, a9, a10, a11, a12, a13, a14, a15] hp) = .ok k.D hp' ∧ k.OK ∧ PoolAt hp' p (c + 50) ∧ Gr p hp hp' := by
  obtain ⟨v, hp1, e1, v1, v2, p1, g1, _⟩ := take_go h (m := 10500) (by omega) (by omega) (by omega)
  simp only [lp__law_line_key_4, e_var, e_vget, e_c, e_op, e_op1, e_un, e_nil, e_cons, e_cons1, e_cons2, e_a0, e_ka0, e_app, e_app1, e_app2, e_tup, kT1, kT2, kT3, kT4, kT5, kT7, e_lst, kL0, kL1, kL2, kL3, kL4, kL5, e_test, e_ktest, e_and, e_andT, e_andF, e_or, e_orT, e_orF, e_not, e_knot, e_if, e_ifT, e_ifF, e_andv, e_andvT, e_andvF, e_orv, e_orvT, e_orvF, e_notv, e_knotv, e_ch, e_ch1, e_ch2, e_ch3T, e_ch3F, e_cb, e_call, e_make, e_fld, e_kfld, e_setf, e_setf1, e_setf2, e_seq, e_next, e_break, e_cont, e_expr, e_nx, e_ret, e_rt, e_retn, e_ifs, e_ifsT, e_ifsF, e_set, e_kset, e_asg, e_kasg, e_as2, e_gn, e_gtp, e_gto, e_gs0, e_gs1, e_for, e_rng1, e_rng2, e_srca, e_srcr, e_srco, e_srct, e_srcs, e_nop, e_part, e_kpart, e_sl, e_sl1, e_sl2, e_dslt, e_bm, e_kbm, e_bmo, e_add, e_sub, e_own1, e_mull, e_mulr, e_div, e_mod, e_neg, e_lt, e_gt, e_le, e_ge, e_eq, e_ne, e_eqs, e_eqb, e_ixt, e_ixs, e_ixr, e_ixo, e_ixR, at0, at1, at2, at3, at4, at5, at6, e_int, e_intT, e_intF, e_abs, e_min, e_max, e_lent, e_lens, e_lenr, e_leno, e_sumt, e_sumr, e_sumo, e_ftup, e_tupo, e_apnd, e_clr, e_clro, e_gix, e_gi1, e_gi2, e_gi0, e_giB, e_tru, e_trub, e_isi, e_isir, fin_nx, fin_rt, fin_ex, b_bind, b_st, b_nx, b_thn, b_thr, b_thb, b_thc, List.getElem?_cons_zero, List.getElem?_cons_succ, List.set_cons_zero, List.set_cons_succ, decide_true, decide_false, Bool.not_true, Bool.not_false, List.cons_append, List.nil_append, List.length_map, eq_self, Int.reduceLT, Int.reduceLE, and_self, and_true, true_and, e_comp, get_last]
  by_cases hz : sort = 7
  · simp only [hz, e_var, e_vget, e_c, e_op, e_op1, e_un, e_nil, e_cons, e_cons1, e_cons2, e_a0, e_ka0, e_app, e_app1, e_app2, e_tup, kT1, kT2, kT3, kT4, kT5, kT7, e_lst, kL0, kL1, kL2, kL3, kL4, kL5, e_test, e_ktest, e_and, e_andT, e_andF, e_or, e_orT, e_orF, e_not, e_knot, e_if, e_ifT, e_ifF, e_andv, e_andvT, e_andvF, e_orv, e_orvT, e_orvF, e_notv, e_knotv, e_ch, e_ch1, e_ch2, e_ch3T, e_ch3F, e_cb, e_call, e_make, e_fld, e_kfld, e_setf, e_setf1, e_setf2, e_seq, e_next, e_break, e_cont, e_expr, e_nx, e_ret, e_rt, e_retn, e_ifs, e_ifsT, e_ifsF, e_set, e_kset, e_asg, e_kasg, e_as2, e_gn, e_gtp, e_gto, e_gs0, e_gs1, e_for, e_rng1, e_rng2, e_srca, e_srcr, e_srco, e_srct, e_srcs, e_nop, e_part, e_kpart, e_sl, e_sl1, e_sl2, e_dslt, e_bm, e_kbm, e_bmo, e_add, e_sub, e_own1, e_mull, e_mulr, e_div, e_mod, e_neg, e_lt, e_gt, e_le, e_ge, e_eq, e_ne, e_eqs, e_eqb, e_ixt, e_ixs, e_ixr, e_ixo, e_ixR, at0, at1, at2, at3, at4, at5, at6, e_int, e_intT, e_intF, e_abs, e_min, e_max, e_lent, e_lens, e_lenr, e_leno, e_sumt, e_sumr, e_sumo, e_ftup, e_tupo, e_apnd, e_clr, e_clro, e_gix, e_gi1, e_gi2, e_gi0, e_giB, e_tru, e_trub, e_isi, e_isir, fin_nx, fin_rt, fin_ex, b_bind, b_st, b_nx, b_thn, b_thr, b_thb, b_thc, List.getElem?_cons_zero, List.getElem?_cons_succ, List.set_cons_zero, List.set_cons_succ, decide_true, decide_false, Bool.not_true, Bool.not_false, List.cons_append, List.nil_append, List.length_map, eq_self, Int.reduceLT, Int.reduceLE, and_self, and_true, true_and, e_comp, get_last, e1]
    obtain ⟨k, hp9, e9, ok, p9, g9⟩ := lk3 (r := r) (a2 := a2) (a3 := a3) (a4 := some (.int 7)) (a6 := a6) (a7 := a7) (a8 := a8) (a9 := a9) (a10 := a10) (a11 := a11) (a12 := a12) (a13 := a13) (a14 := a14) (a15 := a15) (wide := 1 + v) p1 (by omega)
    exact ⟨k, hp9, e9, ok, p9.le (by omega), g1.trans g9⟩
  · simp only [hz, e_var, e_vget, e_c, e_op, e_op1, e_un, e_nil, e_cons, e_cons1, e_cons2, e_a0, e_ka0, e_app, e_app1, e_app2, e_tup, kT1, kT2, kT3, kT4, kT5, kT7, e_lst, kL0, kL1, kL2, kL3, kL4, kL5, e_test, e_ktest, e_and, e_andT, e_andF, e_or, e_orT, e_orF, e_not, e_knot, e_if, e_ifT, e_ifF, e_andv, e_andvT, e_andvF, e_orv, e_orvT, e_orvF, e_notv, e_knotv, e_ch, e_ch1, e_ch2, e_ch3T, e_ch3F, e_cb, e_call, e_make, e_fld, e_kfld, e_setf, e_setf1, e_setf2, e_seq, e_next, e_break, e_cont, e_expr, e_nx, e_ret, e_rt, e_retn, e_ifs, e_ifsT, e_ifsF, e_set, e_kset, e_asg, e_kasg, e_as2, e_gn, e_gtp, e_gto, e_gs0, e_gs1, e_for, e_rng1, e_rng2, e_srca, e_srcr, e_srco, e_srct, e_srcs, e_nop, e_part, e_kpart, e_sl, e_sl1, e_sl2, e_dslt, e_bm, e_kbm, e_bmo, e_add, e_sub, e_own1, e_mull, e_mulr, e_div, e_mod, e_neg, e_lt, e_gt, e_le, e_ge, e_eq, e_ne, e_eqs, e_eqb, e_ixt, e_ixs, e_ixr, e_ixo, e_ixR, at0, at1, at2, at3, at4, at5, at6, e_int, e_intT, e_intF, e_abs, e_min, e_max, e_lent, e_lens, e_lenr, e_leno, e_sumt, e_sumr, e_sumo, e_ftup, e_tupo, e_apnd, e_clr, e_clro, e_gix, e_gi1, e_gi2, e_gi0, e_giB, e_tru, e_trub, e_isi, e_isir, fin_nx, fin_rt, fin_ex, b_bind, b_st, b_nx, b_thn, b_thr, b_thb, b_thc, List.getElem?_cons_zero, List.getElem?_cons_succ, List.set_cons_zero, List.set_cons_succ, decide_true, decide_false, Bool.not_true, Bool.not_false, List.cons_append, List.nil_append, List.length_map, eq_self, Int.reduceLT, Int.reduceLE, and_self, and_true, true_and, e_comp, get_last]
    obtain ⟨k, hp9, e9, ok, p9, g9⟩ := lk3 (r := r) (a2 := a2) (a3 := a3) (a4 := some (.int sort)) (a6 := a6) (a7 := a7) (a8 := a8) (a9 := a9) (a10 := a10) (a11 := a11) (a12 := a12) (a13 := a13) (a14 := a14) (a15 := a15) (wide := wide) h (by omega)
    exact ⟨k, hp9, e9, ok, p9.le (by omega), g9⟩
theorem lk5 (ok : r.OK) (h : PoolAt hp p c) (hc : c ≤ 2 ^ 36) {sort : Int} :
    ∃ (k : Key) (hp' : DH), fin (lp__law_line_key_5 [some (.ref p), some r.D, a2, a3, some (.int sort), some (.int wide), a6, a7, a8, a9, a10, a11, a12, a13, a14, a15] hp) = .ok k.D hp' ∧ k.OK ∧ PoolAt hp' p (c + 60) ∧ Gr p hp hp' := by
  have hmax := ok.max
  simp only [lp__law_line_key_5, e_var, e_vget, e_c, e_op, e_op1, e_un, e_nil, e_cons, e_cons1, e_cons2, e_a0, e_ka0, e_app, e_app1, e_app2, e_tup, kT1, kT2, kT3, kT4, kT5, kT7, e_lst, kL0, kL1, kL2, kL3, kL4, kL5, e_test, e_ktest, e_and, e_andT, e_andF, e_or, e_orT, e_orF, e_not, e_knot, e_if, e_ifT, e_ifF, e_andv, e_andvT, e_andvF, e_orv, e_orvT, e_orvF, e_notv, e_knotv, e_ch, e_ch1, e_ch2, e_ch3T, e_ch3F, e_cb, e_call, e_make, e_fld, e_kfld, e_setf, e_setf1, e_setf2, e_seq, e_next, e_break, e_cont, e_expr, e_nx, e_ret, e_rt, e_retn, e_ifs, e_ifsT, e_ifsF, e_set, e_kset, e_asg, e_kasg, e_as2, e_gn, e_gtp, e_gto, e_gs0, e_gs1, e_for, e_rng1, e_rng2, e_srca, e_srcr, e_srco, e_srct, e_srcs, e_nop, e_part, e_kpart, e_sl, e_sl1, e_sl2, e_dslt, e_bm, e_kbm, e_bmo, e_add, e_sub, e_own1, e_mull, e_mulr, e_div, e_mod, e_neg, e_lt, e_gt, e_le, e_ge, e_eq, e_ne, e_eqs, e_eqb, e_ixt, e_ixs, e_ixr, e_ixo, e_ixR, at0, at1, at2, at3, at4, at5, at6, e_int, e_intT, e_intF, e_abs, e_min, e_max, e_lent, e_lens, e_lenr, e_leno, e_sumt, e_sumr, e_sumo, e_ftup, e_tupo, e_apnd, e_clr, e_clro, e_gix, e_gi1, e_gi2, e_gi0, e_giB, e_tru, e_trub, e_isi, e_isir, fin_nx, fin_rt, fin_ex, b_bind, b_st, b_nx, b_thn, b_thr, b_thb, b_thc, List.getElem?_cons_zero, List.getElem?_cons_succ, List.set_cons_zero, List.set_cons_succ, decide_true, decide_false, Bool.not_true, Bool.not_false, List.cons_append, List.nil_append, List.length_map, eq_self, Int.reduceLT, Int.reduceLE, and_self, and_true, true_and, e_comp, get_last, e_inr, in2, Row.D, List.length_map]
  have h1 := h.app (e := [.lst [.int 1, .int 3]])
  by_cases hs : 1 = sort ∨ 3 = sort
  · simp only [hs, e_var, e_vget, e_c, e_op, e_op1, e_un, e_nil, e_cons, e_cons1, e_cons2, e_a0, e_ka0, e_app, e_app1, e_app2, e_tup, kT1, kT2, kT3, kT4, kT5, kT7, e_lst, kL0, kL1, kL2, kL3, kL4, kL5, e_test, e_ktest, e_and, e_andT, e_andF, e_or, e_orT, e_orF, e_not, e_knot, e_if, e_ifT, e_ifF, e_andv, e_andvT, e_andvF, e_orv, e_orvT, e_orvF, e_notv, e_knotv, e_ch, e_ch1, e_ch2, e_ch3T, e_ch3F, e_cb, e_call, e_make, e_fld, e_kfld, e_setf, e_setf1, e_setf2, e_seq, e_next, e_break, e_cont, e_expr, e_nx, e_ret, e_rt, e_retn, e_ifs, e_ifsT, e_ifsF, e_set, e_kset, e_asg, e_kasg, e_as2, e_gn, e_gtp, e_gto, e_gs0, e_gs1, e_for, e_rng1, e_rng2, e_srca, e_srcr, e_srco, e_srct, e_srcs, e_nop, e_part, e_kpart, e_sl, e_sl1, e_sl2, e_dslt, e_bm, e_kbm, e_bmo, e_add, e_sub, e_own1, e_mull, e_mulr, e_div, e_mod, e_neg, e_lt, e_gt, e_le, e_ge, e_eq, e_ne, e_eqs, e_eqb, e_ixt, e_ixs, e_ixr, e_ixo, e_ixR, at0, at1, at2, at3, at4, at5, at6, e_int, e_intT, e_intF, e_abs, e_min, e_max, e_lent, e_lens, e_lenr, e_leno, e_sumt, e_sumr, e_sumo, e_ftup, e_tupo, e_apnd, e_clr, e_clro, e_gix, e_gi1, e_gi2, e_gi0, e_giB, e_tru, e_trub, e_isi, e_isir, fin_nx, fin_rt, fin_ex, b_bind, b_st, b_nx, b_thn, b_thr, b_thb, b_thc, List.getElem?_cons_zero, List.getElem?_cons_succ, List.set_cons_zero, List.set_cons_succ, decide_true, decide_false, Bool.not_true, Bool.not_false, List.cons_append, List.nil_append, List.length_map, eq_self, Int.reduceLT, Int.reduceLE, and_self, and_true, true_and, e_comp, get_last]
    by_cases hl : (0 : Int) < (r.ws.length : Int)
    · obtain ⟨v, hp1, e1, v1, v2, p1, g1, _⟩ := take_go h1 (m := (r.ws.length : Int)) (by omega) (by omega) (by omega)
      obtain ⟨u, hp2, e2, u1, u2, p2, g2, _⟩ := take_go p1 (m := (r.ws.length : Int) - v) (by omega) (by omega) (by omega)
      obtain ⟨s, rfl⟩ := Int.eq_ofNat_of_zero_le v1
      obtain ⟨e, he⟩ := Int.eq_ofNat_of_zero_le (show 0 ≤ (s : Int) + 1 + u by omega)
      have eg := glue_go ok (s := s) (e := e) (hp := hp2) (by omega) (by omega)
      simp only [hl, e_var, e_vget, e_c, e_op, e_op1, e_un, e_nil, e_cons, e_cons1, e_cons2, e_a0, e_ka0, e_app, e_app1, e_app2, e_tup, kT1, kT2, kT3, kT4, kT5, kT7, e_lst, kL0, kL1, kL2, kL3, kL4, kL5, e_test, e_ktest, e_and, e_andT, e_andF, e_or, e_orT, e_orF, e_not, e_knot, e_if, e_ifT, e_ifF, e_andv, e_andvT, e_andvF, e_orv, e_orvT, e_orvF, e_notv, e_knotv, e_ch, e_ch1, e_ch2, e_ch3T, e_ch3F, e_cb, e_call, e_make, e_fld, e_kfld, e_setf, e_setf1, e_setf2, e_seq, e_next, e_break, e_cont, e_expr, e_nx, e_ret, e_rt, e_retn, e_ifs, e_ifsT, e_ifsF, e_set, e_kset, e_asg, e_kasg, e_as2, e_gn, e_gtp, e_gto, e_gs0, e_gs1, e_for, e_rng1, e_rng2, e_srca, e_srcr, e_srco, e_srct, e_srcs, e_nop, e_part, e_kpart, e_sl, e_sl1, e_sl2, e_dslt, e_bm, e_kbm, e_bmo, e_add, e_sub, e_own1, e_mull, e_mulr, e_div, e_mod, e_neg, e_lt, e_gt, e_le, e_ge, e_eq, e_ne, e_eqs, e_eqb, e_ixt, e_ixs, e_ixr, e_ixo, e_ixR, at0, at1, at2, at3, at4, at5, at6, e_int, e_intT, e_intF, e_abs, e_min, e_max, e_lent, e_lens, e_lenr, e_leno, e_sumt, e_sumr, e_sumo, e_ftup, e_tupo, e_apnd, e_clr, e_clro, e_gix, e_gi1, e_gi2, e_gi0, e_giB, e_tru, e_trub, e_isi, e_isir, fin_nx, fin_rt, fin_ex, b_bind, b_st, b_nx, b_thn, b_thr, b_thb, b_thc, List.getElem?_cons_zero, List.getElem?_cons_succ, List.set_cons_zero, List.set_cons_succ, decide_true, decide_false, Bool.not_true, Bool.not_false, List.cons_append, List.nil_append, List.length_map, eq_self, Int.reduceLT, Int.reduceLE, and_self, and_true, true_and, e_comp, get_last, e1, e2, he]
      simp only [Row.D] at eg
      simp only [eg, e_var, e_vget, e_c, e_op, e_op1, e_un, e_nil, e_cons, e_cons1, e_cons2, e_a0, e_ka0, e_app, e_app1, e_app2, e_tup, kT1, kT2, kT3, kT4, kT5, kT7, e_lst, kL0, kL1, kL2, kL3, kL4, kL5, e_test, e_ktest, e_and, e_andT, e_andF, e_or, e_orT, e_orF, e_not, e_knot, e_if, e_ifT, e_ifF, e_andv, e_andvT, e_andvF, e_orv, e_orvT, e_orvF, e_notv, e_knotv, e_ch, e_ch1, e_ch2, e_ch3T, e_ch3F, e_cb, e_call, e_make, e_fld, e_kfld, e_setf, e_setf1, e_setf2, e_seq, e_next, e_break, e_cont, e_expr, e_nx, e_ret, e_rt, e_retn, e_ifs, e_ifsT, e_ifsF, e_set, e_kset, e_asg, e_kasg, e_as2, e_gn, e_gtp, e_gto, e_gs0, e_gs1, e_for, e_rng1, e_rng2, e_srca, e_srcr, e_srco, e_srct, e_srcs, e_nop, e_part, e_kpart, e_sl, e_sl1, e_sl2, e_dslt, e_bm, e_kbm, e_bmo, e_add, e_sub, e_own1, e_mull, e_mulr, e_div, e_mod, e_neg, e_lt, e_gt, e_le, e_ge, e_eq, e_ne, e_eqs, e_eqb, e_ixt, e_ixs, e_ixr, e_ixo, e_ixR, at0, at1, at2, at3, at4, at5, at6, e_int, e_intT, e_intF, e_abs, e_min, e_max, e_lent, e_lens, e_lenr, e_leno, e_sumt, e_sumr, e_sumo, e_ftup, e_tupo, e_apnd, e_clr, e_clro, e_gix, e_gi1, e_gi2, e_gi0, e_giB, e_tru, e_trub, e_isi, e_isir, fin_nx, fin_rt, fin_ex, b_bind, b_st, b_nx, b_thn, b_thr, b_thb, b_thc, List.getElem?_cons_zero, List.getElem?_cons_succ, List.set_cons_zero, List.set_cons_succ, decide_true, decide_false, Bool.not_true, Bool.not_false, List.cons_append, List.nil_append, List.length_map, eq_self, Int.reduceLT, Int.reduceLE, and_self, and_true, true_and, e_comp, get_last]
      obtain ⟨k, hp9, e9, ok, p9, g9⟩ := lk4 (r := r) (a2 := a2) (a3 := a3) (a6 := some (.int (s : Int))) (a7 := some (.int (e : Int))) (a8 := a8) (a9 := a9) (a10 := a10) (a11 := a11) (a12 := a12) (a13 := a13) (a14 := a14) (a15 := a15) (wide := gW r s e) (sort := sort) (p2.app (e := [.lst [.int (gW r s e), .int (gM r s e), .int (gL r s e)]])) (by omega)
      exact ⟨k, hp9, e9, ok, p9.le (by omega), (Px.app _ _).gr.trans (g1.trans (g2.trans ((Px.app _ _).gr.trans g9)))⟩
    · simp only [hl, e_var, e_vget, e_c, e_op, e_op1, e_un, e_nil, e_cons, e_cons1, e_cons2, e_a0, e_ka0, e_app, e_app1, e_app2, e_tup, kT1, kT2, kT3, kT4, kT5, kT7, e_lst, kL0, kL1, kL2, kL3, kL4, kL5, e_test, e_ktest, e_and, e_andT, e_andF, e_or, e_orT, e_orF, e_not, e_knot, e_if, e_ifT, e_ifF, e_andv, e_andvT, e_andvF, e_orv, e_orvT, e_orvF, e_notv, e_knotv, e_ch, e_ch1, e_ch2, e_ch3T, e_ch3F, e_cb, e_call, e_make, e_fld, e_kfld, e_setf, e_setf1, e_setf2, e_seq, e_next, e_break, e_cont, e_expr, e_nx, e_ret, e_rt, e_retn, e_ifs, e_ifsT, e_ifsF, e_set, e_kset, e_asg, e_kasg, e_as2, e_gn, e_gtp, e_gto, e_gs0, e_gs1, e_for, e_rng1, e_rng2, e_srca, e_srcr, e_srco, e_srct, e_srcs, e_nop, e_part, e_kpart, e_sl, e_sl1, e_sl2, e_dslt, e_bm, e_kbm, e_bmo, e_add, e_sub, e_own1, e_mull, e_mulr, e_div, e_mod, e_neg, e_lt, e_gt, e_le, e_ge, e_eq, e_ne, e_eqs, e_eqb, e_ixt, e_ixs, e_ixr, e_ixo, e_ixR, at0, at1, at2, at3, at4, at5, at6, e_int, e_intT, e_intF, e_abs, e_min, e_max, e_lent, e_lens, e_lenr, e_leno, e_sumt, e_sumr, e_sumo, e_ftup, e_tupo, e_apnd, e_clr, e_clro, e_gix, e_gi1, e_gi2, e_gi0, e_giB, e_tru, e_trub, e_isi, e_isir, fin_nx, fin_rt, fin_ex, b_bind, b_st, b_nx, b_thn, b_thr, b_thb, b_thc, List.getElem?_cons_zero, List.getElem?_cons_succ, List.set_cons_zero, List.set_cons_succ, decide_true, decide_false, Bool.not_true, Bool.not_false, List.cons_append, List.nil_append, List.length_map, eq_self, Int.reduceLT, Int.reduceLE, and_self, and_true, true_and, e_comp, get_last]
      obtain ⟨k, hp9, e9, ok, p9, g9⟩ := lk4 (r := r) (a2 := a2) (a3 := a3) (a6 := a6) (a7 := a7) (a8 := a8) (a9 := a9) (a10 := a10) (a11 := a11) (a12 := a12) (a13 := a13) (a14 := a14) (a15 := a15) (wide := wide) (sort := sort) h1 (by omega)
      exact ⟨k, hp9, e9, ok, p9.le (by omega), (Px.app _ _).gr.trans g9⟩
  · simp only [hs, e_var, e_vget, e_c, e_op, e_op1, e_un, e_nil, e_cons, e_cons1, e_cons2, e_a0, e_ka0, e_app, e_app1, e_app2, e_tup, kT1, kT2, kT3, kT4, kT5, kT7, e_lst, kL0, kL1, kL2, kL3, kL4, kL5, e_test, e_ktest, e_and, e_andT, e_andF, e_or, e_orT, e_orF, e_not, e_knot, e_if, e_ifT, e_ifF, e_andv, e_andvT, e_andvF, e_orv, e_orvT, e_orvF, e_notv, e_knotv, e_ch, e_ch1, e_ch2, e_ch3T, e_ch3F, e_cb, e_call, e_make, e_fld, e_kfld, e_setf, e_setf1, e_setf2, e_seq, e_next, e_break, e_cont, e_expr, e_nx, e_ret, e_rt, e_retn, e_ifs, e_ifsT, e_ifsF, e_set, e_kset, e_asg, e_kasg, e_as2, e_gn, e_gtp, e_gto, e_gs0, e_gs1, e_for, e_rng1, e_rng2, e_srca, e_srcr, e_srco, e_srct, e_srcs, e_nop, e_part, e_kpart, e_sl, e_sl1, e_sl2, e_dslt, e_bm, e_kbm, e_bmo, e_add, e_sub, e_own1, e_mull, e_mulr, e_div, e_mod, e_neg, e_lt, e_gt, e_le, e_ge, e_eq, e_ne, e_eqs, e_eqb, e_ixt, e_ixs, e_ixr, e_ixo, e_ixR, at0, at1, at2, at3, at4, at5, at6, e_int, e_intT, e_intF, e_abs, e_min, e_max, e_lent, e_lens, e_lenr, e_leno, e_sumt, e_sumr, e_sumo, e_ftup, e_tupo, e_apnd, e_clr, e_clro, e_gix, e_gi1, e_gi2, e_gi0, e_giB, e_tru, e_trub, e_isi, e_isir, fin_nx, fin_rt, fin_ex, b_bind, b_st, b_nx, b_thn, b_thr, b_thb, b_thc, List.getElem?_cons_zero, List.getElem?_cons_succ, List.set_cons_zero, List.set_cons_succ, decide_true, decide_false, Bool.not_true, Bool.not_false, List.cons_append, List.nil_append, List.length_map, eq_self, Int.reduceLT, Int.reduceLE, and_self, and_true, true_and, e_comp, get_last]
    obtain ⟨k, hp9, e9, ok, p9, g9⟩ := lk4 (r := r) (a2 := a2) (a3 := a3) (a6 := a6) (a7 := a7) (a8 := a8) (a9 := a9) (a10 := a10) (a11 := a11) (a12 := a12) (a13 := a13) (a14 := a14) (a15 := a15) (wide := wide) (sort := sort) h1 (by omega)
    exact ⟨k, hp9, e9, ok, p9.le (by omega), (Px.app _ _).gr.trans g9⟩
def gapT : D → Bool | .tup (.str x :: _) => x == "gap" | _ => false
def gapF : D → D | .tup (_ :: y :: _) => y | d => d
theorem gaps_ints (js : List Jt) : ∃ ns : List Int, ((js.map Jt.D).filter gapT).map gapF = ns.map D.int := by
  induction js with
  | nil => exact ⟨[], rfl⟩
  | cons j js ih =>
    obtain ⟨ns, ih⟩ := ih
    rcases j with ⟨w, m, l⟩ | ⟨m, b⟩
    · exact ⟨w :: ns, by simp [gapT, gapF, Jt.D, s_gg, ih]⟩
    · exact ⟨ns, by simp [gapT, Jt.D, s_hg, ih]⟩
theorem key_go (ok : r.OK) (h : PoolAt hp p c) (hc : c ≤ 2 ^ 35) : ∃ (k : Key) (hp' : DH), run__law_line_key [.ref p, r.D] hp = .ok k.D hp' ∧ k.OK ∧ PoolAt hp' p (c + 70) ∧ Gr p hp hp' := by
  have hmax := ok.max
  have hlen := ok.len
  rw [ent__law_line_key]
  have ec : ∀ (env : En), kComp [15] (gN 15) (mTest (mOp dEq (mOp dIx (mVar 15) (mC (.int 0))) (mC (.str "gap")))) (mOp dIx (mVar 15) (mC (.int 1))) [some (.ref p), some r.D, none, none, none, none, none, none, none, none, none, none, none, none, none, none] (.its (r.js.map Jt.D)) hp
      = .ok (.ref hp.length) (hp ++ [.lst (((r.js.map Jt.D).filter gapT).map gapF)]) := by
    intro env
    refine comp_its gapT gapF ?_ ?_ (by simp [sizeLine]; omega)
    · intro d hd
      obtain ⟨j, _, rfl⟩ := List.mem_map.mp hd
      simp only [wipeE]
      rcases j with ⟨w, m, l⟩ | ⟨m, b⟩ <;> simp only [e_var, e_vget, e_c, e_op, e_op1, e_un, e_nil, e_cons, e_cons1, e_cons2, e_a0, e_ka0, e_app, e_app1, e_app2, e_tup, kT1, kT2, kT3, kT4, kT5, kT7, e_lst, kL0, kL1, kL2, kL3, kL4, kL5, e_test, e_ktest, e_and, e_andT, e_andF, e_or, e_orT, e_orF, e_not, e_knot, e_if, e_ifT, e_ifF, e_andv, e_andvT, e_andvF, e_orv, e_orvT, e_orvF, e_notv, e_knotv, e_ch, e_ch1, e_ch2, e_ch3T, e_ch3F, e_cb, e_call, e_make, e_fld, e_kfld, e_setf, e_setf1, e_setf2, e_seq, e_next, e_break, e_cont, e_expr, e_nx, e_ret, e_rt, e_retn, e_ifs, e_ifsT, e_ifsF, e_set, e_kset, e_asg, e_kasg, e_as2, e_gn, e_gtp, e_gto, e_gs0, e_gs1, e_for, e_rng1, e_rng2, e_srca, e_srcr, e_srco, e_srct, e_srcs, e_nop, e_part, e_kpart, e_sl, e_sl1, e_sl2, e_dslt, e_bm, e_kbm, e_bmo, e_add, e_sub, e_own1, e_mull, e_mulr, e_div, e_mod, e_neg, e_lt, e_gt, e_le, e_ge, e_eq, e_ne, e_eqs, e_eqb, e_ixt, e_ixs, e_ixr, e_ixo, e_ixR, at0, at1, at2, at3, at4, at5, at6, e_int, e_intT, e_intF, e_abs, e_min, e_max, e_lent, e_lens, e_lenr, e_leno, e_sumt, e_sumr, e_sumo, e_ftup, e_tupo, e_apnd, e_clr, e_clro, e_gix, e_gi1, e_gi2, e_gi0, e_giB, e_tru, e_trub, e_isi, e_isir, fin_nx, fin_rt, fin_ex, b_bind, b_st, b_nx, b_thn, b_thr, b_thb, b_thc, List.getElem?_cons_zero, List.getElem?_cons_succ, List.set_cons_zero, List.set_cons_succ, decide_true, decide_false, Bool.not_true, Bool.not_false, List.cons_append, List.nil_append, List.length_map, eq_self, Int.reduceLT, Int.reduceLE, and_self, and_true, true_and, e_comp, get_last, Jt.D, gapT]
    · intro d hd _
      obtain ⟨j, _, rfl⟩ := List.mem_map.mp hd
      simp only [wipeE]
      rcases j with ⟨w, m, l⟩ | ⟨m, b⟩ <;> simp only [e_var, e_vget, e_c, e_op, e_op1, e_un, e_nil, e_cons, e_cons1, e_cons2, e_a0, e_ka0, e_app, e_app1, e_app2, e_tup, kT1, kT2, kT3, kT4, kT5, kT7, e_lst, kL0, kL1, kL2, kL3, kL4, kL5, e_test, e_ktest, e_and, e_andT, e_andF, e_or, e_orT, e_orF, e_not, e_knot, e_if, e_ifT, e_ifF, e_andv, e_andvT, e_andvF, e_orv, e_orvT, e_orvF, e_notv, e_knotv, e_ch, e_ch1, e_ch2, e_ch3T, e_ch3F, e_cb, e_call, e_make, e_fld, e_kfld, e_setf, e_setf1, e_setf2, e_seq, e_next, e_break, e_cont, e_expr, e_nx, e_ret, e_rt, e_retn, e_ifs, e_ifsT, e_ifsF, e_set, e_kset, e_asg, e_kasg, e_as2, e_gn, e_gtp, e_gto, e_gs0, e_gs1, e_for, e_rng1, e_rng2, e_srca, e_srcr, e_srco, e_srct, e_srcs, e_nop, e_part, e_kpart, e_sl, e_sl1, e_sl2, e_dslt, e_bm, e_kbm, e_bmo, e_add, e_sub, e_own1, e_mull, e_mulr, e_div, e_mod, e_neg, e_lt, e_gt, e_le, e_ge, e_eq, e_ne, e_eqs, e_eqb, e_ixt, e_ixs, e_ixr, e_ixo, e_ixR, at0, at1, at2, at3, at4, at5, at6, e_int, e_intT, e_intF, e_abs, e_min, e_max, e_lent, e_lens, e_lenr, e_leno, e_sumt, e_sumr, e_sumo, e_ftup, e_tupo, e_apnd, e_clr, e_clro, e_gix, e_gi1, e_gi2, e_gi0, e_giB, e_tru, e_trub, e_isi, e_isir, fin_nx, fin_rt, fin_ex, b_bind, b_st, b_nx, b_thn, b_thr, b_thb, b_thc, List.getElem?_cons_zero, List.getElem?_cons_succ, List.set_cons_zero, List.set_cons_succ, decide_true, decide_false, Bool.not_true, Bool.not_false, List.cons_append, List.nil_append, List.length_map, eq_self, Int.reduceLT, Int.reduceLE, and_self, and_true, true_and, e_comp, get_last, Jt.D, gapF]
  obtain ⟨ns, hns⟩ := gaps_ints r.js
  rw [hns] at ec
  obtain ⟨v, hp1, e1, v1, v2, p1, g1, _⟩ := take_go (h.app (e := [.lst (ns.map D.int)])) (m := 8) (by omega) (by omega) (by omega)
  obtain ⟨u, hp2, e2, u1, u2, p2, g2, _⟩ := take_go p1 (m := 150) (by omega) (by omega) (by omega)
  have h3 := p2.app (e := [.lst [.int 2, .int 4, .int 5, .int 6]])
  have gg := (Px.app hp [.lst (ns.map D.int)]).gr.trans (g1.trans (g2.trans (Px.app hp2 [.lst [.int 2, .int 4, .int 5, .int 6]]).gr))
  simp only [Row.D] at ec
  simp only [m__law_line_key, e_var, e_vget, e_c, e_op, e_op1, e_un, e_nil, e_cons, e_cons1, e_cons2, e_a0, e_ka0, e_app, e_app1, e_app2, e_tup, kT1, kT2, kT3, kT4, kT5, kT7, e_lst, kL0, kL1, kL2, kL3, kL4, kL5, e_test, e_ktest, e_and, e_andT, e_andF, e_or, e_orT, e_orF, e_not, e_knot, e_if, e_ifT, e_ifF, e_andv, e_andvT, e_andvF, e_orv, e_orvT, e_orvF, e_notv, e_knotv, e_ch, e_ch1, e_ch2, e_ch3T, e_ch3F, e_cb, e_call, e_make, e_fld, e_kfld, e_setf, e_setf1, e_setf2, e_seq, e_next, e_break, e_cont, e_expr, e_nx, e_ret, e_rt, e_retn, e_ifs, e_ifsT, e_ifsF, e_set, e_kset, e_asg, e_kasg, e_as2, e_gn, e_gtp, e_gto, e_gs0, e_gs1, e_for, e_rng1, e_rng2, e_srca, e_srcr, e_srco, e_srct, e_srcs, e_nop, e_part, e_kpart, e_sl, e_sl1, e_sl2, e_dslt, e_bm, e_kbm, e_bmo, e_add, e_sub, e_own1, e_mull, e_mulr, e_div, e_mod, e_neg, e_lt, e_gt, e_le, e_ge, e_eq, e_ne, e_eqs, e_eqb, e_ixt, e_ixs, e_ixr, e_ixo, e_ixR, at0, at1, at2, at3, at4, at5, at6, e_int, e_intT, e_intF, e_abs, e_min, e_max, e_lent, e_lens, e_lenr, e_leno, e_sumt, e_sumr, e_sumo, e_ftup, e_tupo, e_apnd, e_clr, e_clro, e_gix, e_gi1, e_gi2, e_gi0, e_giB, e_tru, e_trub, e_isi, e_isir, fin_nx, fin_rt, fin_ex, b_bind, b_st, b_nx, b_thn, b_thr, b_thb, b_thc, List.getElem?_cons_zero, List.getElem?_cons_succ, List.set_cons_zero, List.set_cons_succ, decide_true, decide_false, Bool.not_true, Bool.not_false, List.cons_append, List.nil_append, List.length_map, eq_self, Int.reduceLT, Int.reduceLE, and_self, and_true, true_and, e_comp, get_last, Row.D, ec [], e1, e2, e_inr, in4]
  by_cases hs : 2 = v ∨ 4 = v ∨ 5 = v ∨ 6 = v
  · obtain ⟨t, hp3, e3, t1, t2, p3, g3, _⟩ := take_go h3 (m := 24) (by omega) (by omega) (by omega)
    simp only [hs, e_var, e_vget, e_c, e_op, e_op1, e_un, e_nil, e_cons, e_cons1, e_cons2, e_a0, e_ka0, e_app, e_app1, e_app2, e_tup, kT1, kT2, kT3, kT4, kT5, kT7, e_lst, kL0, kL1, kL2, kL3, kL4, kL5, e_test, e_ktest, e_and, e_andT, e_andF, e_or, e_orT, e_orF, e_not, e_knot, e_if, e_ifT, e_ifF, e_andv, e_andvT, e_andvF, e_orv, e_orvT, e_orvF, e_notv, e_knotv, e_ch, e_ch1, e_ch2, e_ch3T, e_ch3F, e_cb, e_call, e_make, e_fld, e_kfld, e_setf, e_setf1, e_setf2, e_seq, e_next, e_break, e_cont, e_expr, e_nx, e_ret, e_rt, e_retn, e_ifs, e_ifsT, e_ifsF, e_set, e_kset, e_asg, e_kasg, e_as2, e_gn, e_gtp, e_gto, e_gs0, e_gs1, e_for, e_rng1, e_rng2, e_srca, e_srcr, e_srco, e_srct, e_srcs, e_nop, e_part, e_kpart, e_sl, e_sl1, e_sl2, e_dslt, e_bm, e_kbm, e_bmo, e_add, e_sub, e_own1, e_mull, e_mulr, e_div, e_mod, e_neg, e_lt, e_gt, e_le, e_ge, e_eq, e_ne, e_eqs, e_eqb, e_ixt, e_ixs, e_ixr, e_ixo, e_ixR, at0, at1, at2, at3, at4, at5, at6, e_int, e_intT, e_intF, e_abs, e_min, e_max, e_lent, e_lens, e_lenr, e_leno, e_sumt, e_sumr, e_sumo, e_ftup, e_tupo, e_apnd, e_clr, e_clro, e_gix, e_gi1, e_gi2, e_gi0, e_giB, e_tru, e_trub, e_isi, e_isir, fin_nx, fin_rt, fin_ex, b_bind, b_st, b_nx, b_thn, b_thr, b_thb, b_thc, List.getElem?_cons_zero, List.getElem?_cons_succ, List.set_cons_zero, List.set_cons_succ, decide_true, decide_false, Bool.not_true, Bool.not_false, List.cons_append, List.nil_append, List.length_map, eq_self, Int.reduceLT, Int.reduceLE, and_self, and_true, true_and, e_comp, get_last, e_div (show 0 < v by omega) (by omega), e3]
    obtain ⟨k, hp9, e9, ok, p9, g9⟩ := lk5 (r := r) (a2 := some (.ref hp.length)) (a3 := some (.int (r.ws.sum + ns.sum))) (a6 := none) (a7 := none) (a8 := none) (a9 := none) (a10 := none) (a11 := none) (a12 := none) (a13 := none) (a14 := none) (a15 := none) (wide := (r.ws.sum + ns.sum) / v + t) (sort := v) ok p3 (by omega)
    exact ⟨k, hp9, e9, ok, p9.le (by omega), gg.trans (g3.trans g9)⟩
  · simp only [hs, e_var, e_vget, e_c, e_op, e_op1, e_un, e_nil, e_cons, e_cons1, e_cons2, e_a0, e_ka0, e_app, e_app1, e_app2, e_tup, kT1, kT2, kT3, kT4, kT5, kT7, e_lst, kL0, kL1, kL2, kL3, kL4, kL5, e_test, e_ktest, e_and, e_andT, e_andF, e_or, e_orT, e_orF, e_not, e_knot, e_if, e_ifT, e_ifF, e_andv, e_andvT, e_andvF, e_orv, e_orvT, e_orvF, e_notv, e_knotv, e_ch, e_ch1, e_ch2, e_ch3T, e_ch3F, e_cb, e_call, e_make, e_fld, e_kfld, e_setf, e_setf1, e_setf2, e_seq, e_next, e_break, e_cont, e_expr, e_nx, e_ret, e_rt, e_retn, e_ifs, e_ifsT, e_ifsF, e_set, e_kset, e_asg, e_kasg, e_as2, e_gn, e_gtp, e_gto, e_gs0, e_gs1, e_for, e_rng1, e_rng2, e_srca, e_srcr, e_srco, e_srct, e_srcs, e_nop, e_part, e_kpart, e_sl, e_sl1, e_sl2, e_dslt, e_bm, e_kbm, e_bmo, e_add, e_sub, e_own1, e_mull, e_mulr, e_div, e_mod, e_neg, e_lt, e_gt, e_le, e_ge, e_eq, e_ne, e_eqs, e_eqb, e_ixt, e_ixs, e_ixr, e_ixo, e_ixR, at0, at1, at2, at3, at4, at5, at6, e_int, e_intT, e_intF, e_abs, e_min, e_max, e_lent, e_lens, e_lenr, e_leno, e_sumt, e_sumr, e_sumo, e_ftup, e_tupo, e_apnd, e_clr, e_clro, e_gix, e_gi1, e_gi2, e_gi0, e_giB, e_tru, e_trub, e_isi, e_isir, fin_nx, fin_rt, fin_ex, b_bind, b_st, b_nx, b_thn, b_thr, b_thb, b_thc, List.getElem?_cons_zero, List.getElem?_cons_succ, List.set_cons_zero, List.set_cons_succ, decide_true, decide_false, Bool.not_true, Bool.not_false, List.cons_append, List.nil_append, List.length_map, eq_self, Int.reduceLT, Int.reduceLE, and_self, and_true, true_and, e_comp, get_last]
    obtain ⟨k, hp9, e9, ok, p9, g9⟩ := lk5 (r := r) (a2 := some (.ref hp.length)) (a3 := some (.int (r.ws.sum + ns.sum))) (a6 := none) (a7 := none) (a8 := none) (a9 := none) (a10 := none) (a11 := none) (a12 := none) (a13 := none) (a14 := none) (a15 := none) (wide := 5 + u) (sort := v) ok h3 (by omega)
    exact ⟨k, hp9, e9, ok, p9.le (by omega), gg.trans g9⟩
end
end DL
/-! a possible line -/
namespace DL
open PySem PySem.Spec PyProof.Rows L2
theorem e_i01 {p : Prop} [Decidable p] {hp : DH} : fInt [.bl (decide p)] hp = .ok (.int (if p then 1 else 0)) hp := by
  by_cases h : p <;> simp [h] <;> rfl
theorem kA16 {a b c d e f g : D} {hp : DH} : dAdd (.tup [a]) (.tup [b, c, d, e, f, g]) hp = .ok (.tup [a, b, c, d, e, f, g]) hp := e_addt (by simp [sizeLine])
theorem cut1 {a b c d e f g : D} : cutD [a, b, c, d, e, f, g] (some 1) none = [b, c, d, e, f, g] := rfl
theorem sS {b : Bool} : (sideS b == ("both" : Str)) = b := by cases b <;> decide +kernel
theorem sL {b : Bool} : (sideS b == ("left" : Str)) = !b := by cases b <;> decide +kernel
theorem Jt.OK.m0 {j : Jt} {x : Int} (h : j.OK x) : 0 ≤ j.m ∧ j.m ≤ 500 := by
  rcases j with ⟨w, m, l⟩ | ⟨m, b⟩
  · obtain ⟨_, _, h1, h2, _⟩ := h; exact ⟨h1, h2⟩
  · simp [Jt.m]
theorem Jt.OK.l0 {j : Jt} {x : Int} (h : j.OK x) : 0 ≤ j.l ∧ j.l ≤ 500 := by
  rcases j with ⟨w, m, l⟩ | ⟨m, b⟩
  · obtain ⟨_, h0, _, _, h1, h2⟩ := h; exact ⟨h1, by simp only [Jt.l]; omega⟩
  · simp [Jt.l]
theorem S_diff {f : Nat → Int} {B : Int} {m : Nat} : ∀ {n : Nat}, m ≤ n → (∀ i, m ≤ i → i < n → 0 ≤ f i ∧ f i ≤ B) → 0 ≤ S f n - S f m ∧ S f n - S f m ≤ B * (n - m : Nat)
  | 0, h, _ => by obtain rfl : m = 0 := by omega
                  simp
  | n + 1, h, hf => by
    by_cases e : m = n + 1
    · subst e; simp
    · have h1 := S_diff (f := f) (n := n) (m := m) (by omega) fun i h1 h2 => hf i h1 (by omega)
      have h2 := hf n (by omega) (by omega)
      have h3 : B * ((n + 1 - m : Nat) : Int) = B * ((n - m : Nat) : Int) + B := by rw [show n + 1 - m = (n - m) + 1 by omega, Int.natCast_add, Int.mul_add]; simp
      simp only [S]; rw [h3]; omega
theorem gM_b {r : Row} (ok : r.OK) {s e : Nat} (h1 : s < e) (h2 : e ≤ r.ws.length) : 0 ≤ gM r s e ∧ gM r s e ≤ 20000 := by
  have hmax := ok.max
  have := S_diff (f := fun i => (r.j i).m) (B := 500) (m := s) (n := e - 1) (by omega) fun i h3 h4 => (ok.jp i (by omega)).m0
  unfold gM
  have h5 : ((e - 1 - s : Nat) : Int) ≤ 40 := by omega
  omega
theorem gL_b {r : Row} (ok : r.OK) {s e : Nat} (h1 : s < e) (h2 : e ≤ r.ws.length) : 0 ≤ gL r s e ∧ gL r s e ≤ 20000 := by
  have hmax := ok.max
  have := S_diff (f := fun i => (r.j i).l) (B := 500) (m := s) (n := e - 1) (by omega) fun i h3 h4 => (ok.jp i (by omega)).l0
  unfold gL
  have h5 : ((e - 1 - s : Nat) : Int) ≤ 40 := by omega
  omega
theorem mulb {a b : Int} (a0 : 0 ≤ a) (a1 : a ≤ 10) (b0 : 0 ≤ b) (b1 : b ≤ 20000) : 0 ≤ a * b ∧ a * b ≤ 200000 := by
  constructor
  · exact Int.mul_nonneg a0 b0
  · exact Int.le_trans (Int.mul_le_mul_of_nonneg_right a1 b0) (by omega)
def rest (r : Row) (s e : Nat) (k : Key) : Int := k.wide - k.ind * (if (s : Int) = 0 then 1 else 0) - gW r s e
structure Poss (r : Row) (s e : Nat) (k : Key) : Prop where
  neg : rest r s e k < 0 → k.both = true ∧ -rest r s e k ≤ gL r s e
  pos : 0 ≤ rest r s e k → k.both = true → e < r.ws.length → rest r s e k ≤ k.ls * gM r s e
theorem ind_mul {k : Key} (kk : k.OK) {x : Int} {hp : DH} : dMul (.int k.ind) (.int x) hp = .ok (.int (k.ind * x)) hp := e_mull (by have := kk.i0; have := kk.i1; omega)
theorem poss_go {r : Row} {hp : DH} {k : Key} {s e : Nat} (ok : r.OK) (kk : k.OK) (h1 : s < e) (h2 : e ≤ r.ws.length) :
    ∃ (b : Bool) (hp' : DH), run__law_possible [r.D, .int (s : Int), .int (e : Int), k.D] hp = .ok (.bl b) hp' ∧ Px hp hp' ∧ (b = true → Poss r s e k) := by
  have hM := gM_b ok h1 h2
  have hmul : ∀ hp, dMul (.int k.ls) (.int (gM r s e)) hp = .ok (.int (k.ls * gM r s e)) hp := fun hp => e_mull (by have := kk.l0; have := kk.l1; omega)
  rw [ent__law_possible]
  simp only [m__law_possible, lp__law_possible_0, e_var, e_vget, e_c, e_op, e_op1, e_un, e_nil, e_cons, e_cons1, e_cons2, e_a0, e_ka0, e_app, e_app1, e_app2, e_tup, kT1, kT2, kT3, kT4, kT5, kT7, e_lst, kL0, kL1, kL2, kL3, kL4, kL5, e_test, e_ktest, e_and, e_andT, e_andF, e_or, e_orT, e_orF, e_not, e_knot, e_if, e_ifT, e_ifF, e_andv, e_andvT, e_andvF, e_orv, e_orvT, e_orvF, e_notv, e_knotv, e_ch, e_ch1, e_ch2, e_ch3T, e_ch3F, e_cb, e_call, e_make, e_fld, e_kfld, e_setf, e_setf1, e_setf2, e_seq, e_next, e_break, e_cont, e_expr, e_nx, e_ret, e_rt, e_retn, e_ifs, e_ifsT, e_ifsF, e_set, e_kset, e_asg, e_kasg, e_as2, e_gn, e_gtp, e_gto, e_gs0, e_gs1, e_for, e_rng1, e_rng2, e_srca, e_srcr, e_srco, e_srct, e_srcs, e_nop, e_part, e_kpart, e_sl, e_sl1, e_sl2, e_dslt, e_bm, e_kbm, e_bmo, e_add, e_sub, e_own1, e_mull, e_mulr, e_div, e_mod, e_neg, e_lt, e_gt, e_le, e_ge, e_eq, e_ne, e_eqs, e_eqb, e_ixt, e_ixs, e_ixr, e_ixo, e_ixR, at0, at1, at2, at3, at4, at5, at6, e_int, e_intT, e_intF, e_abs, e_min, e_max, e_lent, e_lens, e_lenr, e_leno, e_sumt, e_sumr, e_sumo, e_ftup, e_tupo, e_apnd, e_clr, e_clro, e_gix, e_gi1, e_gi2, e_gi0, e_giB, e_tru, e_trub, e_isi, e_isir, fin_nx, fin_rt, fin_ex, b_bind, b_st, b_nx, b_thn, b_thr, b_thb, b_thc, List.getElem?_cons_zero, List.getElem?_cons_succ, List.set_cons_zero, List.set_cons_succ, decide_true, decide_false, Bool.not_true, Bool.not_false, List.cons_append, List.nil_append, List.length_map, eq_self, Int.reduceLT, Int.reduceLE, and_self, and_true, true_and, e_comp, get_last, glue_go ok h1 h2, e_i01, Key.D, ind_mul kk]
  rw [show k.wide - k.ind * (if (s : Int) = 0 then 1 else 0) - gW r s e = rest r s e k from rfl]
  by_cases hr : rest r s e k < 0
  · simp only [hr, e_var, e_vget, e_c, e_op, e_op1, e_un, e_nil, e_cons, e_cons1, e_cons2, e_a0, e_ka0, e_app, e_app1, e_app2, e_tup, kT1, kT2, kT3, kT4, kT5, kT7, e_lst, kL0, kL1, kL2, kL3, kL4, kL5, e_test, e_ktest, e_and, e_andT, e_andF, e_or, e_orT, e_orF, e_not, e_knot, e_if, e_ifT, e_ifF, e_andv, e_andvT, e_andvF, e_orv, e_orvT, e_orvF, e_notv, e_knotv, e_ch, e_ch1, e_ch2, e_ch3T, e_ch3F, e_cb, e_call, e_make, e_fld, e_kfld, e_setf, e_setf1, e_setf2, e_seq, e_next, e_break, e_cont, e_expr, e_nx, e_ret, e_rt, e_retn, e_ifs, e_ifsT, e_ifsF, e_set, e_kset, e_asg, e_kasg, e_as2, e_gn, e_gtp, e_gto, e_gs0, e_gs1, e_for, e_rng1, e_rng2, e_srca, e_srcr, e_srco, e_srct, e_srcs, e_nop, e_part, e_kpart, e_sl, e_sl1, e_sl2, e_dslt, e_bm, e_kbm, e_bmo, e_add, e_sub, e_own1, e_mull, e_mulr, e_div, e_mod, e_neg, e_lt, e_gt, e_le, e_ge, e_eq, e_ne, e_eqs, e_eqb, e_ixt, e_ixs, e_ixr, e_ixo, e_ixR, at0, at1, at2, at3, at4, at5, at6, e_int, e_intT, e_intF, e_abs, e_min, e_max, e_lent, e_lens, e_lenr, e_leno, e_sumt, e_sumr, e_sumo, e_ftup, e_tupo, e_apnd, e_clr, e_clro, e_gix, e_gi1, e_gi2, e_gi0, e_giB, e_tru, e_trub, e_isi, e_isir, fin_nx, fin_rt, fin_ex, b_bind, b_st, b_nx, b_thn, b_thr, b_thb, b_thc, List.getElem?_cons_zero, List.getElem?_cons_succ, List.set_cons_zero, List.set_cons_succ, decide_true, decide_false, Bool.not_true, Bool.not_false, List.cons_append, List.nil_append, List.length_map, eq_self, Int.reduceLT, Int.reduceLE, and_self, and_true, true_and, e_comp, get_last, sS, get_last]
    rcases hb : k.both with _ | _
    · simp only [e_var, e_vget, e_c, e_op, e_op1, e_un, e_nil, e_cons, e_cons1, e_cons2, e_a0, e_ka0, e_app, e_app1, e_app2, e_tup, kT1, kT2, kT3, kT4, kT5, kT7, e_lst, kL0, kL1, kL2, kL3, kL4, kL5, e_test, e_ktest, e_and, e_andT, e_andF, e_or, e_orT, e_orF, e_not, e_knot, e_if, e_ifT, e_ifF, e_andv, e_andvT, e_andvF, e_orv, e_orvT, e_orvF, e_notv, e_knotv, e_ch, e_ch1, e_ch2, e_ch3T, e_ch3F, e_cb, e_call, e_make, e_fld, e_kfld, e_setf, e_setf1, e_setf2, e_seq, e_next, e_break, e_cont, e_expr, e_nx, e_ret, e_rt, e_retn, e_ifs, e_ifsT, e_ifsF, e_set, e_kset, e_asg, e_kasg, e_as2, e_gn, e_gtp, e_gto, e_gs0, e_gs1, e_for, e_rng1, e_rng2, e_srca, e_srcr, e_srco, e_srct, e_srcs, e_nop, e_part, e_kpart, e_sl, e_sl1, e_sl2, e_dslt, e_bm, e_kbm, e_bmo, e_add, e_sub, e_own1, e_mull, e_mulr, e_div, e_mod, e_neg, e_lt, e_gt, e_le, e_ge, e_eq, e_ne, e_eqs, e_eqb, e_ixt, e_ixs, e_ixr, e_ixo, e_ixR, at0, at1, at2, at3, at4, at5, at6, e_int, e_intT, e_intF, e_abs, e_min, e_max, e_lent, e_lens, e_lenr, e_leno, e_sumt, e_sumr, e_sumo, e_ftup, e_tupo, e_apnd, e_clr, e_clro, e_gix, e_gi1, e_gi2, e_gi0, e_giB, e_tru, e_trub, e_isi, e_isir, fin_nx, fin_rt, fin_ex, b_bind, b_st, b_nx, b_thn, b_thr, b_thb, b_thc, List.getElem?_cons_zero, List.getElem?_cons_succ, List.set_cons_zero, List.set_cons_succ, decide_true, decide_false, Bool.not_true, Bool.not_false, List.cons_append, List.nil_append, List.length_map, eq_self, Int.reduceLT, Int.reduceLE, and_self, and_true, true_and, e_comp, get_last]
      exact ⟨_, _, rfl, Px.app _ _, fun h => absurd h (by simp)⟩
    · simp only [e_var, e_vget, e_c, e_op, e_op1, e_un, e_nil, e_cons, e_cons1, e_cons2, e_a0, e_ka0, e_app, e_app1, e_app2, e_tup, kT1, kT2, kT3, kT4, kT5, kT7, e_lst, kL0, kL1, kL2, kL3, kL4, kL5, e_test, e_ktest, e_and, e_andT, e_andF, e_or, e_orT, e_orF, e_not, e_knot, e_if, e_ifT, e_ifF, e_andv, e_andvT, e_andvF, e_orv, e_orvT, e_orvF, e_notv, e_knotv, e_ch, e_ch1, e_ch2, e_ch3T, e_ch3F, e_cb, e_call, e_make, e_fld, e_kfld, e_setf, e_setf1, e_setf2, e_seq, e_next, e_break, e_cont, e_expr, e_nx, e_ret, e_rt, e_retn, e_ifs, e_ifsT, e_ifsF, e_set, e_kset, e_asg, e_kasg, e_as2, e_gn, e_gtp, e_gto, e_gs0, e_gs1, e_for, e_rng1, e_rng2, e_srca, e_srcr, e_srco, e_srct, e_srcs, e_nop, e_part, e_kpart, e_sl, e_sl1, e_sl2, e_dslt, e_bm, e_kbm, e_bmo, e_add, e_sub, e_own1, e_mull, e_mulr, e_div, e_mod, e_neg, e_lt, e_gt, e_le, e_ge, e_eq, e_ne, e_eqs, e_eqb, e_ixt, e_ixs, e_ixr, e_ixo, e_ixR, at0, at1, at2, at3, at4, at5, at6, e_int, e_intT, e_intF, e_abs, e_min, e_max, e_lent, e_lens, e_lenr, e_leno, e_sumt, e_sumr, e_sumo, e_ftup, e_tupo, e_apnd, e_clr, e_clro, e_gix, e_gi1, e_gi2, e_gi0, e_giB, e_tru, e_trub, e_isi, e_isir, fin_nx, fin_rt, fin_ex, b_bind, b_st, b_nx, b_thn, b_thr, b_thb, b_thc, List.getElem?_cons_zero, List.getElem?_cons_succ, List.set_cons_zero, List.set_cons_succ, decide_true, decide_false, Bool.not_true, Bool.not_false, List.cons_append, List.nil_append, List.length_map, eq_self, Int.reduceLT, Int.reduceLE, and_self, and_true, true_and, e_comp, get_last]
      exact ⟨_, _, rfl, Px.app _ _, fun h => ⟨fun _ => ⟨hb, by simpa using h⟩, fun h => absurd h (by omega)⟩⟩
  · simp only [hr, e_var, e_vget, e_c, e_op, e_op1, e_un, e_nil, e_cons, e_cons1, e_cons2, e_a0, e_ka0, e_app, e_app1, e_app2, e_tup, kT1, kT2, kT3, kT4, kT5, kT7, e_lst, kL0, kL1, kL2, kL3, kL4, kL5, e_test, e_ktest, e_and, e_andT, e_andF, e_or, e_orT, e_orF, e_not, e_knot, e_if, e_ifT, e_ifF, e_andv, e_andvT, e_andvF, e_orv, e_orvT, e_orvF, e_notv, e_knotv, e_ch, e_ch1, e_ch2, e_ch3T, e_ch3F, e_cb, e_call, e_make, e_fld, e_kfld, e_setf, e_setf1, e_setf2, e_seq, e_next, e_break, e_cont, e_expr, e_nx, e_ret, e_rt, e_retn, e_ifs, e_ifsT, e_ifsF, e_set, e_kset, e_asg, e_kasg, e_as2, e_gn, e_gtp, e_gto, e_gs0, e_gs1, e_for, e_rng1, e_rng2, e_srca, e_srcr, e_srco, e_srct, e_srcs, e_nop, e_part, e_kpart, e_sl, e_sl1, e_sl2, e_dslt, e_bm, e_kbm, e_bmo, e_add, e_sub, e_own1, e_mull, e_mulr, e_div, e_mod, e_neg, e_lt, e_gt, e_le, e_ge, e_eq, e_ne, e_eqs, e_eqb, e_ixt, e_ixs, e_ixr, e_ixo, e_ixR, at0, at1, at2, at3, at4, at5, at6, e_int, e_intT, e_intF, e_abs, e_min, e_max, e_lent, e_lens, e_lenr, e_leno, e_sumt, e_sumr, e_sumo, e_ftup, e_tupo, e_apnd, e_clr, e_clro, e_gix, e_gi1, e_gi2, e_gi0, e_giB, e_tru, e_trub, e_isi, e_isir, fin_nx, fin_rt, fin_ex, b_bind, b_st, b_nx, b_thn, b_thr, b_thb, b_thc, List.getElem?_cons_zero, List.getElem?_cons_succ, List.set_cons_zero, List.set_cons_succ, decide_true, decide_false, Bool.not_true, Bool.not_false, List.cons_append, List.nil_append, List.length_map, eq_self, Int.reduceLT, Int.reduceLE, and_self, and_true, true_and, e_comp, get_last, sL]
    rcases hb : k.both with _ | _
    · simp only [e_var, e_vget, e_c, e_op, e_op1, e_un, e_nil, e_cons, e_cons1, e_cons2, e_a0, e_ka0, e_app, e_app1, e_app2, e_tup, kT1, kT2, kT3, kT4, kT5, kT7, e_lst, kL0, kL1, kL2, kL3, kL4, kL5, e_test, e_ktest, e_and, e_andT, e_andF, e_or, e_orT, e_orF, e_not, e_knot, e_if, e_ifT, e_ifF, e_andv, e_andvT, e_andvF, e_orv, e_orvT, e_orvF, e_notv, e_knotv, e_ch, e_ch1, e_ch2, e_ch3T, e_ch3F, e_cb, e_call, e_make, e_fld, e_kfld, e_setf, e_setf1, e_setf2, e_seq, e_next, e_break, e_cont, e_expr, e_nx, e_ret, e_rt, e_retn, e_ifs, e_ifsT, e_ifsF, e_set, e_kset, e_asg, e_kasg, e_as2, e_gn, e_gtp, e_gto, e_gs0, e_gs1, e_for, e_rng1, e_rng2, e_srca, e_srcr, e_srco, e_srct, e_srcs, e_nop, e_part, e_kpart, e_sl, e_sl1, e_sl2, e_dslt, e_bm, e_kbm, e_bmo, e_add, e_sub, e_own1, e_mull, e_mulr, e_div, e_mod, e_neg, e_lt, e_gt, e_le, e_ge, e_eq, e_ne, e_eqs, e_eqb, e_ixt, e_ixs, e_ixr, e_ixo, e_ixR, at0, at1, at2, at3, at4, at5, at6, e_int, e_intT, e_intF, e_abs, e_min, e_max, e_lent, e_lens, e_lenr, e_leno, e_sumt, e_sumr, e_sumo, e_ftup, e_tupo, e_apnd, e_clr, e_clro, e_gix, e_gi1, e_gi2, e_gi0, e_giB, e_tru, e_trub, e_isi, e_isir, fin_nx, fin_rt, fin_ex, b_bind, b_st, b_nx, b_thn, b_thr, b_thb, b_thc, List.getElem?_cons_zero, List.getElem?_cons_succ, List.set_cons_zero, List.set_cons_succ, decide_true, decide_false, Bool.not_true, Bool.not_false, List.cons_append, List.nil_append, List.length_map, eq_self, Int.reduceLT, Int.reduceLE, and_self, and_true, true_and, e_comp, get_last]
      exact ⟨_, _, rfl, Px.app _ _, fun _ => ⟨fun h => absurd h hr, fun _ h => by simp [hb] at h⟩⟩
    · simp only [e_var, e_vget, e_c, e_op, e_op1, e_un, e_nil, e_cons, e_cons1, e_cons2, e_a0, e_ka0, e_app, e_app1, e_app2, e_tup, kT1, kT2, kT3, kT4, kT5, kT7, e_lst, kL0, kL1, kL2, kL3, kL4, kL5, e_test, e_ktest, e_and, e_andT, e_andF, e_or, e_orT, e_orF, e_not, e_knot, e_if, e_ifT, e_ifF, e_andv, e_andvT, e_andvF, e_orv, e_orvT, e_orvF, e_notv, e_knotv, e_ch, e_ch1, e_ch2, e_ch3T, e_ch3F, e_cb, e_call, e_make, e_fld, e_kfld, e_setf, e_setf1, e_setf2, e_seq, e_next, e_break, e_cont, e_expr, e_nx, e_ret, e_rt, e_retn, e_ifs, e_ifsT, e_ifsF, e_set, e_kset, e_asg, e_kasg, e_as2, e_gn, e_gtp, e_gto, e_gs0, e_gs1, e_for, e_rng1, e_rng2, e_srca, e_srcr, e_srco, e_srct, e_srcs, e_nop, e_part, e_kpart, e_sl, e_sl1, e_sl2, e_dslt, e_bm, e_kbm, e_bmo, e_add, e_sub, e_own1, e_mull, e_mulr, e_div, e_mod, e_neg, e_lt, e_gt, e_le, e_ge, e_eq, e_ne, e_eqs, e_eqb, e_ixt, e_ixs, e_ixr, e_ixo, e_ixR, at0, at1, at2, at3, at4, at5, at6, e_int, e_intT, e_intF, e_abs, e_min, e_max, e_lent, e_lens, e_lenr, e_leno, e_sumt, e_sumr, e_sumo, e_ftup, e_tupo, e_apnd, e_clr, e_clro, e_gix, e_gi1, e_gi2, e_gi0, e_giB, e_tru, e_trub, e_isi, e_isir, fin_nx, fin_rt, fin_ex, b_bind, b_st, b_nx, b_thn, b_thr, b_thb, b_thc, List.getElem?_cons_zero, List.getElem?_cons_succ, List.set_cons_zero, List.set_cons_succ, decide_true, decide_false, Bool.not_true, Bool.not_false, List.cons_append, List.nil_append, List.length_map, eq_self, Int.reduceLT, Int.reduceLE, and_self, and_true, true_and, e_comp, get_last, Row.D]
      by_cases he : (e : Int) = (r.ws.length : Int)
      · simp only [he, e_var, e_vget, e_c, e_op, e_op1, e_un, e_nil, e_cons, e_cons1, e_cons2, e_a0, e_ka0, e_app, e_app1, e_app2, e_tup, kT1, kT2, kT3, kT4, kT5, kT7, e_lst, kL0, kL1, kL2, kL3, kL4, kL5, e_test, e_ktest, e_and, e_andT, e_andF, e_or, e_orT, e_orF, e_not, e_knot, e_if, e_ifT, e_ifF, e_andv, e_andvT, e_andvF, e_orv, e_orvT, e_orvF, e_notv, e_knotv, e_ch, e_ch1, e_ch2, e_ch3T, e_ch3F, e_cb, e_call, e_make, e_fld, e_kfld, e_setf, e_setf1, e_setf2, e_seq, e_next, e_break, e_cont, e_expr, e_nx, e_ret, e_rt, e_retn, e_ifs, e_ifsT, e_ifsF, e_set, e_kset, e_asg, e_kasg, e_as2, e_gn, e_gtp, e_gto, e_gs0, e_gs1, e_for, e_rng1, e_rng2, e_srca, e_srcr, e_srco, e_srct, e_srcs, e_nop, e_part, e_kpart, e_sl, e_sl1, e_sl2, e_dslt, e_bm, e_kbm, e_bmo, e_add, e_sub, e_own1, e_mull, e_mulr, e_div, e_mod, e_neg, e_lt, e_gt, e_le, e_ge, e_eq, e_ne, e_eqs, e_eqb, e_ixt, e_ixs, e_ixr, e_ixo, e_ixR, at0, at1, at2, at3, at4, at5, at6, e_int, e_intT, e_intF, e_abs, e_min, e_max, e_lent, e_lens, e_lenr, e_leno, e_sumt, e_sumr, e_sumo, e_ftup, e_tupo, e_apnd, e_clr, e_clro, e_gix, e_gi1, e_gi2, e_gi0, e_giB, e_tru, e_trub, e_isi, e_isir, fin_nx, fin_rt, fin_ex, b_bind, b_st, b_nx, b_thn, b_thr, b_thb, b_thc, List.getElem?_cons_zero, List.getElem?_cons_succ, List.set_cons_zero, List.set_cons_succ, decide_true, decide_false, Bool.not_true, Bool.not_false, List.cons_append, List.nil_append, List.length_map, eq_self, Int.reduceLT, Int.reduceLE, and_self, and_true, true_and, e_comp, get_last]
        exact ⟨_, _, rfl, Px.app _ _, fun _ => ⟨fun h => absurd h hr, fun _ _ h => absurd h (by omega)⟩⟩
      · simp only [he, e_var, e_vget, e_c, e_op, e_op1, e_un, e_nil, e_cons, e_cons1, e_cons2, e_a0, e_ka0, e_app, e_app1, e_app2, e_tup, kT1, kT2, kT3, kT4, kT5, kT7, e_lst, kL0, kL1, kL2, kL3, kL4, kL5, e_test, e_ktest, e_and, e_andT, e_andF, e_or, e_orT, e_orF, e_not, e_knot, e_if, e_ifT, e_ifF, e_andv, e_andvT, e_andvF, e_orv, e_orvT, e_orvF, e_notv, e_knotv, e_ch, e_ch1, e_ch2, e_ch3T, e_ch3F, e_cb, e_call, e_make, e_fld, e_kfld, e_setf, e_setf1, e_setf2, e_seq, e_next, e_break, e_cont, e_expr, e_nx, e_ret, e_rt, e_retn, e_ifs, e_ifsT, e_ifsF, e_set, e_kset, e_asg, e_kasg, e_as2, e_gn, e_gtp, e_gto, e_gs0, e_gs1, e_for, e_rng1, e_rng2, e_srca, e_srcr, e_srco, e_srct, e_srcs, e_nop, e_part, e_kpart, e_sl, e_sl1, e_sl2, e_dslt, e_bm, e_kbm, e_bmo, e_add, e_sub, e_own1, e_mull, e_mulr, e_div, e_mod, e_neg, e_lt, e_gt, e_le, e_ge, e_eq, e_ne, e_eqs, e_eqb, e_ixt, e_ixs, e_ixr, e_ixo, e_ixR, at0, at1, at2, at3, at4, at5, at6, e_int, e_intT, e_intF, e_abs, e_min, e_max, e_lent, e_lens, e_lenr, e_leno, e_sumt, e_sumr, e_sumo, e_ftup, e_tupo, e_apnd, e_clr, e_clro, e_gix, e_gi1, e_gi2, e_gi0, e_giB, e_tru, e_trub, e_isi, e_isir, fin_nx, fin_rt, fin_ex, b_bind, b_st, b_nx, b_thn, b_thr, b_thb, b_thc, List.getElem?_cons_zero, List.getElem?_cons_succ, List.set_cons_zero, List.set_cons_succ, decide_true, decide_false, Bool.not_true, Bool.not_false, List.cons_append, List.nil_append, List.length_map, eq_self, Int.reduceLT, Int.reduceLE, and_self, and_true, true_and, e_comp, get_last, hmul]
        exact ⟨_, _, rfl, Px.app _ _, fun h => ⟨fun h => absurd h hr, fun _ _ _ => by simpa using h⟩⟩
end DL
/-! the program's glue, its places -/
namespace DL
open PySem PySem.Spec PyProof.Rows L2
def glu (a b c : Int) : DO := .ins "Glue" [("width", .int a), ("stretch", .int b), ("shrink", .int c)]
def meas (k : Key) : DO := .ins "Measure" [("width", .int k.wide), ("indent", .int k.ind), ("align", .str (sideS k.both)), ("hyphen", .int k.hy), ("twin", .int k.tw), ("river", .int k.rv), ("loose", .int k.ls)]
section
variable {env : En} {hp : DH} {n m : Nat} {a b c d e f g y : D} {i j l i' j' l' : Int} {k : Key}
theorem sg1 : setO ["Glue", "Measure"] "width" env y n (some (.ins "Glue" [])) hp = .nx env (hp.set n (.ins "Glue" [("width", y)])) := (rfl)
theorem sg2 : setO ["Glue"] "stretch" env y n (some (.ins "Glue" [("width", a)])) hp = .nx env (hp.set n (.ins "Glue" [("width", a), ("stretch", y)])) := (rfl)
theorem sg3 : setO ["Glue"] "shrink" env y n (some (.ins "Glue" [("width", a), ("stretch", b)])) hp = .nx env (hp.set n (.ins "Glue" [("width", a), ("stretch", b), ("shrink", y)])) := (rfl)
theorem mk_glue : mk "Glue" run_Glue_init [a, b, c] hp = .ok (.ref hp.length) (hp ++ [.ins "Glue" [("width", a), ("stretch", b), ("shrink", c)]]) := by
  unfold mk
  simp only [ent_Glue_init, m_Glue_init, e_var, e_vget, e_c, e_op, e_op1, e_un, e_nil, e_cons, e_cons1, e_cons2, e_a0, e_ka0, e_app, e_app1, e_app2, e_tup, kT1, kT2, kT3, kT4, kT5, kT7, e_lst, kL0, kL1, kL2, kL3, kL4, kL5, e_test, e_ktest, e_and, e_andT, e_andF, e_or, e_orT, e_orF, e_not, e_knot, e_if, e_ifT, e_ifF, e_andv, e_andvT, e_andvF, e_orv, e_orvT, e_orvF, e_notv, e_knotv, e_ch, e_ch1, e_ch2, e_ch3T, e_ch3F, e_cb, e_call, e_make, e_fld, e_kfld, e_setf, e_setf1, e_setf2, e_seq, e_next, e_break, e_cont, e_expr, e_nx, e_ret, e_rt, e_retn, e_ifs, e_ifsT, e_ifsF, e_set, e_kset, e_asg, e_kasg, e_as2, e_gn, e_gtp, e_gto, e_gs0, e_gs1, e_for, e_rng1, e_rng2, e_srca, e_srcr, e_srco, e_srct, e_srcs, e_nop, e_part, e_kpart, e_sl, e_sl1, e_sl2, e_dslt, e_bm, e_kbm, e_bmo, e_add, e_sub, e_own1, e_mull, e_mulr, e_div, e_mod, e_neg, e_lt, e_gt, e_le, e_ge, e_eq, e_ne, e_eqs, e_eqb, e_ixt, e_ixs, e_ixr, e_ixo, e_ixR, at0, at1, at2, at3, at4, at5, at6, e_int, e_intT, e_intF, e_abs, e_min, e_max, e_lent, e_lens, e_lenr, e_leno, e_sumt, e_sumr, e_sumo, e_ftup, e_tupo, e_apnd, e_clr, e_clro, e_gix, e_gi1, e_gi2, e_gi0, e_giB, e_tru, e_trub, e_isi, e_isir, fin_nx, fin_rt, fin_ex, b_bind, b_st, b_nx, b_thn, b_thr, b_thb, b_thc, List.getElem?_cons_zero, List.getElem?_cons_succ, List.set_cons_zero, List.set_cons_succ, decide_true, decide_false, Bool.not_true, Bool.not_false, List.cons_append, List.nil_append, List.length_map, eq_self, Int.reduceLT, Int.reduceLE, and_self, and_true, true_and, e_comp, get_last, sg1, sg2, sg3, set_last]
theorem mkg : mk "Glue" run_Glue_init [.int i, .int j, .int l] hp = .ok (.ref hp.length) (hp ++ [glu i j l]) := mk_glue
theorem fg1 : fldO ["Glue", "Measure"] "width" (some (glu i j l)) hp = .ok (.int i) hp := (rfl)
theorem fg2 : fldO ["Glue"] "stretch" (some (glu i j l)) hp = .ok (.int j) hp := (rfl)
theorem fg3 : fldO ["Glue"] "shrink" (some (glu i j l)) hp = .ok (.int l) hp := (rfl)
theorem sm1 : setO ["Glue", "Measure"] "width" env y n (some (.ins "Measure" [])) hp = .nx env (hp.set n (.ins "Measure" [("width", y)])) := (rfl)
theorem sm2 : setO ["Measure"] "indent" env y n (some (.ins "Measure" [("width", a)])) hp = .nx env (hp.set n (.ins "Measure" [("width", a), ("indent", y)])) := (rfl)
theorem sm3 : setO ["Measure"] "align" env y n (some (.ins "Measure" [("width", a), ("indent", b)])) hp = .nx env (hp.set n (.ins "Measure" [("width", a), ("indent", b), ("align", y)])) := (rfl)
theorem sm4 : setO ["Measure"] "hyphen" env y n (some (.ins "Measure" [("width", a), ("indent", b), ("align", c)])) hp = .nx env (hp.set n (.ins "Measure" [("width", a), ("indent", b), ("align", c), ("hyphen", y)])) := (rfl)
theorem sm5 : setO ["Measure"] "twin" env y n (some (.ins "Measure" [("width", a), ("indent", b), ("align", c), ("hyphen", d)])) hp = .nx env (hp.set n (.ins "Measure" [("width", a), ("indent", b), ("align", c), ("hyphen", d), ("twin", y)])) := (rfl)
theorem sm6 : setO ["Measure"] "river" env y n (some (.ins "Measure" [("width", a), ("indent", b), ("align", c), ("hyphen", d), ("twin", e)])) hp = .nx env (hp.set n (.ins "Measure" [("width", a), ("indent", b), ("align", c), ("hyphen", d), ("twin", e), ("river", y)])) := (rfl)
theorem sm7 : setO ["Measure"] "loose" env y n (some (.ins "Measure" [("width", a), ("indent", b), ("align", c), ("hyphen", d), ("twin", e), ("river", f)])) hp = .nx env (hp.set n (.ins "Measure" [("width", a), ("indent", b), ("align", c), ("hyphen", d), ("twin", e), ("river", f), ("loose", y)])) := (rfl)
theorem meas_go : run_Measure_of [k.D] hp = .ok (.ref hp.length) (hp ++ [meas k]) := by
  rw [ent_Measure_of]
  have : ∀ hp, mk "Measure" run_Measure_init [.int k.wide, .int k.ind, .str (sideS k.both), .int k.hy, .int k.tw, .int k.rv, .int k.ls] hp = .ok (.ref hp.length) (hp ++ [meas k]) := by
    intro hp
    unfold mk
    simp only [ent_Measure_init, m_Measure_init, e_var, e_vget, e_c, e_op, e_op1, e_un, e_nil, e_cons, e_cons1, e_cons2, e_a0, e_ka0, e_app, e_app1, e_app2, e_tup, kT1, kT2, kT3, kT4, kT5, kT7, e_lst, kL0, kL1, kL2, kL3, kL4, kL5, e_test, e_ktest, e_and, e_andT, e_andF, e_or, e_orT, e_orF, e_not, e_knot, e_if, e_ifT, e_ifF, e_andv, e_andvT, e_andvF, e_orv, e_orvT, e_orvF, e_notv, e_knotv, e_ch, e_ch1, e_ch2, e_ch3T, e_ch3F, e_cb, e_call, e_make, e_fld, e_kfld, e_setf, e_setf1, e_setf2, e_seq, e_next, e_break, e_cont, e_expr, e_nx, e_ret, e_rt, e_retn, e_ifs, e_ifsT, e_ifsF, e_set, e_kset, e_asg, e_kasg, e_as2, e_gn, e_gtp, e_gto, e_gs0, e_gs1, e_for, e_rng1, e_rng2, e_srca, e_srcr, e_srco, e_srct, e_srcs, e_nop, e_part, e_kpart, e_sl, e_sl1, e_sl2, e_dslt, e_bm, e_kbm, e_bmo, e_add, e_sub, e_own1, e_mull, e_mulr, e_div, e_mod, e_neg, e_lt, e_gt, e_le, e_ge, e_eq, e_ne, e_eqs, e_eqb, e_ixt, e_ixs, e_ixr, e_ixo, e_ixR, at0, at1, at2, at3, at4, at5, at6, e_int, e_intT, e_intF, e_abs, e_min, e_max, e_lent, e_lens, e_lenr, e_leno, e_sumt, e_sumr, e_sumo, e_ftup, e_tupo, e_apnd, e_clr, e_clro, e_gix, e_gi1, e_gi2, e_gi0, e_giB, e_tru, e_trub, e_isi, e_isir, fin_nx, fin_rt, fin_ex, b_bind, b_st, b_nx, b_thn, b_thr, b_thb, b_thc, List.getElem?_cons_zero, List.getElem?_cons_succ, List.set_cons_zero, List.set_cons_succ, decide_true, decide_false, Bool.not_true, Bool.not_false, List.cons_append, List.nil_append, List.length_map, eq_self, Int.reduceLT, Int.reduceLE, and_self, and_true, true_and, e_comp, get_last, sm1, sm2, sm3, sm4, sm5, sm6, sm7, set_last, meas]
  simp only [m_Measure_of, e_var, e_vget, e_c, e_op, e_op1, e_un, e_nil, e_cons, e_cons1, e_cons2, e_a0, e_ka0, e_app, e_app1, e_app2, e_tup, kT1, kT2, kT3, kT4, kT5, kT7, e_lst, kL0, kL1, kL2, kL3, kL4, kL5, e_test, e_ktest, e_and, e_andT, e_andF, e_or, e_orT, e_orF, e_not, e_knot, e_if, e_ifT, e_ifF, e_andv, e_andvT, e_andvF, e_orv, e_orvT, e_orvF, e_notv, e_knotv, e_ch, e_ch1, e_ch2, e_ch3T, e_ch3F, e_cb, e_call, e_make, e_fld, e_kfld, e_setf, e_setf1, e_setf2, e_seq, e_next, e_break, e_cont, e_expr, e_nx, e_ret, e_rt, e_retn, e_ifs, e_ifsT, e_ifsF, e_set, e_kset, e_asg, e_kasg, e_as2, e_gn, e_gtp, e_gto, e_gs0, e_gs1, e_for, e_rng1, e_rng2, e_srca, e_srcr, e_srco, e_srct, e_srcs, e_nop, e_part, e_kpart, e_sl, e_sl1, e_sl2, e_dslt, e_bm, e_kbm, e_bmo, e_add, e_sub, e_own1, e_mull, e_mulr, e_div, e_mod, e_neg, e_lt, e_gt, e_le, e_ge, e_eq, e_ne, e_eqs, e_eqb, e_ixt, e_ixs, e_ixr, e_ixo, e_ixR, at0, at1, at2, at3, at4, at5, at6, e_int, e_intT, e_intF, e_abs, e_min, e_max, e_lent, e_lens, e_lenr, e_leno, e_sumt, e_sumr, e_sumo, e_ftup, e_tupo, e_apnd, e_clr, e_clro, e_gix, e_gi1, e_gi2, e_gi0, e_giB, e_tru, e_trub, e_isi, e_isir, fin_nx, fin_rt, fin_ex, b_bind, b_st, b_nx, b_thn, b_thr, b_thb, b_thc, List.getElem?_cons_zero, List.getElem?_cons_succ, List.set_cons_zero, List.set_cons_succ, decide_true, decide_false, Bool.not_true, Bool.not_false, List.cons_append, List.nil_append, List.length_map, eq_self, Int.reduceLT, Int.reduceLE, and_self, and_true, true_and, e_comp, get_last, Key.D, this]
theorem fm1 : fldO ["Glue", "Measure"] "width" (some (meas k)) hp = .ok (.int k.wide) hp := (rfl)
theorem fm2 : fldO ["Measure"] "indent" (some (meas k)) hp = .ok (.int k.ind) hp := (rfl)
theorem fm3 : fldO ["Measure"] "align" (some (meas k)) hp = .ok (.str (sideS k.both)) hp := (rfl)
theorem isg : isiO [("int", false), ("bool", false)] [("Glue", true)] (some (glu i j l)) hp = .ok (.bl true) hp := (rfl)
theorem add_go (h1 : hp[n]? = some (glu i j l)) (h2 : hp[m]? = some (glu i' j' l')) : run_Glue_add [.ref n, .ref m] hp = .ok (.ref hp.length) (hp ++ [glu (i + i') (j + j') (l + l')]) := by
  rw [ent_Glue_add]
  simp only [m_Glue_add, lp_Glue_add_0, e_var, e_vget, e_c, e_op, e_op1, e_un, e_nil, e_cons, e_cons1, e_cons2, e_a0, e_ka0, e_app, e_app1, e_app2, e_tup, kT1, kT2, kT3, kT4, kT5, kT7, e_lst, kL0, kL1, kL2, kL3, kL4, kL5, e_test, e_ktest, e_and, e_andT, e_andF, e_or, e_orT, e_orF, e_not, e_knot, e_if, e_ifT, e_ifF, e_andv, e_andvT, e_andvF, e_orv, e_orvT, e_orvF, e_notv, e_knotv, e_ch, e_ch1, e_ch2, e_ch3T, e_ch3F, e_cb, e_call, e_make, e_fld, e_kfld, e_setf, e_setf1, e_setf2, e_seq, e_next, e_break, e_cont, e_expr, e_nx, e_ret, e_rt, e_retn, e_ifs, e_ifsT, e_ifsF, e_set, e_kset, e_asg, e_kasg, e_as2, e_gn, e_gtp, e_gto, e_gs0, e_gs1, e_for, e_rng1, e_rng2, e_srca, e_srcr, e_srco, e_srct, e_srcs, e_nop, e_part, e_kpart, e_sl, e_sl1, e_sl2, e_dslt, e_bm, e_kbm, e_bmo, e_add, e_sub, e_own1, e_mull, e_mulr, e_div, e_mod, e_neg, e_lt, e_gt, e_le, e_ge, e_eq, e_ne, e_eqs, e_eqb, e_ixt, e_ixs, e_ixr, e_ixo, e_ixR, at0, at1, at2, at3, at4, at5, at6, e_int, e_intT, e_intF, e_abs, e_min, e_max, e_lent, e_lens, e_lenr, e_leno, e_sumt, e_sumr, e_sumo, e_ftup, e_tupo, e_apnd, e_clr, e_clro, e_gix, e_gi1, e_gi2, e_gi0, e_giB, e_tru, e_trub, e_isi, e_isir, fin_nx, fin_rt, fin_ex, b_bind, b_st, b_nx, b_thn, b_thr, b_thb, b_thc, List.getElem?_cons_zero, List.getElem?_cons_succ, List.set_cons_zero, List.set_cons_succ, decide_true, decide_false, Bool.not_true, Bool.not_false, List.cons_append, List.nil_append, List.length_map, eq_self, Int.reduceLT, Int.reduceLE, and_self, and_true, true_and, e_comp, get_last, h1, h2, isg, fg1, fg2, fg3, mkg]
theorem sub_go (h1 : hp[n]? = some (glu i j l)) (h2 : hp[m]? = some (glu i' j' l')) : run_Glue_sub [.ref n, .ref m] hp = .ok (.ref hp.length) (hp ++ [glu (i - i') (j - j') (l - l')]) := by
  rw [ent_Glue_sub]
  simp only [m_Glue_sub, lp_Glue_sub_0, e_var, e_vget, e_c, e_op, e_op1, e_un, e_nil, e_cons, e_cons1, e_cons2, e_a0, e_ka0, e_app, e_app1, e_app2, e_tup, kT1, kT2, kT3, kT4, kT5, kT7, e_lst, kL0, kL1, kL2, kL3, kL4, kL5, e_test, e_ktest, e_and, e_andT, e_andF, e_or, e_orT, e_orF, e_not, e_knot, e_if, e_ifT, e_ifF, e_andv, e_andvT, e_andvF, e_orv, e_orvT, e_orvF, e_notv, e_knotv, e_ch, e_ch1, e_ch2, e_ch3T, e_ch3F, e_cb, e_call, e_make, e_fld, e_kfld, e_setf, e_setf1, e_setf2, e_seq, e_next, e_break, e_cont, e_expr, e_nx, e_ret, e_rt, e_retn, e_ifs, e_ifsT, e_ifsF, e_set, e_kset, e_asg, e_kasg, e_as2, e_gn, e_gtp, e_gto, e_gs0, e_gs1, e_for, e_rng1, e_rng2, e_srca, e_srcr, e_srco, e_srct, e_srcs, e_nop, e_part, e_kpart, e_sl, e_sl1, e_sl2, e_dslt, e_bm, e_kbm, e_bmo, e_add, e_sub, e_own1, e_mull, e_mulr, e_div, e_mod, e_neg, e_lt, e_gt, e_le, e_ge, e_eq, e_ne, e_eqs, e_eqb, e_ixt, e_ixs, e_ixr, e_ixo, e_ixR, at0, at1, at2, at3, at4, at5, at6, e_int, e_intT, e_intF, e_abs, e_min, e_max, e_lent, e_lens, e_lenr, e_leno, e_sumt, e_sumr, e_sumo, e_ftup, e_tupo, e_apnd, e_clr, e_clro, e_gix, e_gi1, e_gi2, e_gi0, e_giB, e_tru, e_trub, e_isi, e_isir, fin_nx, fin_rt, fin_ex, b_bind, b_st, b_nx, b_thn, b_thr, b_thb, b_thc, List.getElem?_cons_zero, List.getElem?_cons_succ, List.set_cons_zero, List.set_cons_succ, decide_true, decide_false, Bool.not_true, Bool.not_false, List.cons_append, List.nil_append, List.length_map, eq_self, Int.reduceLT, Int.reduceLE, and_self, and_true, true_and, e_comp, get_last, h1, h2, isg, fg1, fg2, fg3, mkg]
theorem own_add {alt : D → D → DH → R D} (h1 : hp[n]? = some (glu i j l)) (h2 : hp[m]? = some (glu i' j' l')) : dOwn "Glue" run_Glue_add alt (.ref n) (.ref m) hp = .ok (.ref hp.length) (hp ++ [glu (i + i') (j + j') (l + l')]) := by
  have h1' : hp[n]? = some (.ins "Glue" [("width", .int i), ("stretch", .int j), ("shrink", .int l)]) := h1
  have h2' : hp[m]? = some (.ins "Glue" [("width", .int i'), ("stretch", .int j'), ("shrink", .int l')]) := h2
  simp only [dOwn, h1', h2', and_self, if_true, add_go h1 h2, e_var, e_vget, e_c, e_op, e_op1, e_un, e_nil, e_cons, e_cons1, e_cons2, e_a0, e_ka0, e_app, e_app1, e_app2, e_tup, kT1, kT2, kT3, kT4, kT5, kT7, e_lst, kL0, kL1, kL2, kL3, kL4, kL5, e_test, e_ktest, e_and, e_andT, e_andF, e_or, e_orT, e_orF, e_not, e_knot, e_if, e_ifT, e_ifF, e_andv, e_andvT, e_andvF, e_orv, e_orvT, e_orvF, e_notv, e_knotv, e_ch, e_ch1, e_ch2, e_ch3T, e_ch3F, e_cb, e_call, e_make, e_fld, e_kfld, e_setf, e_setf1, e_setf2, e_seq, e_next, e_break, e_cont, e_expr, e_nx, e_ret, e_rt, e_retn, e_ifs, e_ifsT, e_ifsF, e_set, e_kset, e_asg, e_kasg, e_as2, e_gn, e_gtp, e_gto, e_gs0, e_gs1, e_for, e_rng1, e_rng2, e_srca, e_srcr, e_srco, e_srct, e_srcs, e_nop, e_part, e_kpart, e_sl, e_sl1, e_sl2, e_dslt, e_bm, e_kbm, e_bmo, e_add, e_sub, e_own1, e_mull, e_mulr, e_div, e_mod, e_neg, e_lt, e_gt, e_le, e_ge, e_eq, e_ne, e_eqs, e_eqb, e_ixt, e_ixs, e_ixr, e_ixo, e_ixR, at0, at1, at2, at3, at4, at5, at6, e_int, e_intT, e_intF, e_abs, e_min, e_max, e_lent, e_lens, e_lenr, e_leno, e_sumt, e_sumr, e_sumo, e_ftup, e_tupo, e_apnd, e_clr, e_clro, e_gix, e_gi1, e_gi2, e_gi0, e_giB, e_tru, e_trub, e_isi, e_isir, fin_nx, fin_rt, fin_ex, b_bind, b_st, b_nx, b_thn, b_thr, b_thb, b_thc, List.getElem?_cons_zero, List.getElem?_cons_succ, List.set_cons_zero, List.set_cons_succ, decide_true, decide_false, Bool.not_true, Bool.not_false, List.cons_append, List.nil_append, List.length_map, eq_self, Int.reduceLT, Int.reduceLE, and_self, and_true, true_and, e_comp, get_last]
theorem own_sub {alt : D → D → DH → R D} (h1 : hp[n]? = some (glu i j l)) (h2 : hp[m]? = some (glu i' j' l')) : dOwn "Glue" run_Glue_sub alt (.ref n) (.ref m) hp = .ok (.ref hp.length) (hp ++ [glu (i - i') (j - j') (l - l')]) := by
  have h1' : hp[n]? = some (.ins "Glue" [("width", .int i), ("stretch", .int j), ("shrink", .int l)]) := h1
  have h2' : hp[m]? = some (.ins "Glue" [("width", .int i'), ("stretch", .int j'), ("shrink", .int l')]) := h2
  simp only [dOwn, h1', h2', and_self, if_true, sub_go h1 h2, e_var, e_vget, e_c, e_op, e_op1, e_un, e_nil, e_cons, e_cons1, e_cons2, e_a0, e_ka0, e_app, e_app1, e_app2, e_tup, kT1, kT2, kT3, kT4, kT5, kT7, e_lst, kL0, kL1, kL2, kL3, kL4, kL5, e_test, e_ktest, e_and, e_andT, e_andF, e_or, e_orT, e_orF, e_not, e_knot, e_if, e_ifT, e_ifF, e_andv, e_andvT, e_andvF, e_orv, e_orvT, e_orvF, e_notv, e_knotv, e_ch, e_ch1, e_ch2, e_ch3T, e_ch3F, e_cb, e_call, e_make, e_fld, e_kfld, e_setf, e_setf1, e_setf2, e_seq, e_next, e_break, e_cont, e_expr, e_nx, e_ret, e_rt, e_retn, e_ifs, e_ifsT, e_ifsF, e_set, e_kset, e_asg, e_kasg, e_as2, e_gn, e_gtp, e_gto, e_gs0, e_gs1, e_for, e_rng1, e_rng2, e_srca, e_srcr, e_srco, e_srct, e_srcs, e_nop, e_part, e_kpart, e_sl, e_sl1, e_sl2, e_dslt, e_bm, e_kbm, e_bmo, e_add, e_sub, e_own1, e_mull, e_mulr, e_div, e_mod, e_neg, e_lt, e_gt, e_le, e_ge, e_eq, e_ne, e_eqs, e_eqb, e_ixt, e_ixs, e_ixr, e_ixo, e_ixR, at0, at1, at2, at3, at4, at5, at6, e_int, e_intT, e_intF, e_abs, e_min, e_max, e_lent, e_lens, e_lenr, e_leno, e_sumt, e_sumr, e_sumo, e_ftup, e_tupo, e_apnd, e_clr, e_clro, e_gix, e_gi1, e_gi2, e_gi0, e_giB, e_tru, e_trub, e_isi, e_isir, fin_nx, fin_rt, fin_ex, b_bind, b_st, b_nx, b_thn, b_thr, b_thb, b_thc, List.getElem?_cons_zero, List.getElem?_cons_succ, List.set_cons_zero, List.set_cons_succ, decide_true, decide_false, Bool.not_true, Bool.not_false, List.cons_append, List.nil_append, List.length_map, eq_self, Int.reduceLT, Int.reduceLE, and_self, and_true, true_and, e_comp, get_last]
theorem jg_go {t : Jt} : run_joint_glue [t.D] hp = .ok (.ref hp.length) (hp ++ [glu t.w t.m t.l]) := by
  rw [ent_joint_glue]
  rcases t with ⟨w, m, l⟩ | ⟨m, b⟩
  · simp only [m_joint_glue, lp_joint_glue_0, e_var, e_vget, e_c, e_op, e_op1, e_un, e_nil, e_cons, e_cons1, e_cons2, e_a0, e_ka0, e_app, e_app1, e_app2, e_tup, kT1, kT2, kT3, kT4, kT5, kT7, e_lst, kL0, kL1, kL2, kL3, kL4, kL5, e_test, e_ktest, e_and, e_andT, e_andF, e_or, e_orT, e_orF, e_not, e_knot, e_if, e_ifT, e_ifF, e_andv, e_andvT, e_andvF, e_orv, e_orvT, e_orvF, e_notv, e_knotv, e_ch, e_ch1, e_ch2, e_ch3T, e_ch3F, e_cb, e_call, e_make, e_fld, e_kfld, e_setf, e_setf1, e_setf2, e_seq, e_next, e_break, e_cont, e_expr, e_nx, e_ret, e_rt, e_retn, e_ifs, e_ifsT, e_ifsF, e_set, e_kset, e_asg, e_kasg, e_as2, e_gn, e_gtp, e_gto, e_gs0, e_gs1, e_for, e_rng1, e_rng2, e_srca, e_srcr, e_srco, e_srct, e_srcs, e_nop, e_part, e_kpart, e_sl, e_sl1, e_sl2, e_dslt, e_bm, e_kbm, e_bmo, e_add, e_sub, e_own1, e_mull, e_mulr, e_div, e_mod, e_neg, e_lt, e_gt, e_le, e_ge, e_eq, e_ne, e_eqs, e_eqb, e_ixt, e_ixs, e_ixr, e_ixo, e_ixR, at0, at1, at2, at3, at4, at5, at6, e_int, e_intT, e_intF, e_abs, e_min, e_max, e_lent, e_lens, e_lenr, e_leno, e_sumt, e_sumr, e_sumo, e_ftup, e_tupo, e_apnd, e_clr, e_clro, e_gix, e_gi1, e_gi2, e_gi0, e_giB, e_tru, e_trub, e_isi, e_isir, fin_nx, fin_rt, fin_ex, b_bind, b_st, b_nx, b_thn, b_thr, b_thb, b_thc, List.getElem?_cons_zero, List.getElem?_cons_succ, List.set_cons_zero, List.set_cons_succ, decide_true, decide_false, Bool.not_true, Bool.not_false, List.cons_append, List.nil_append, List.length_map, eq_self, Int.reduceLT, Int.reduceLE, and_self, and_true, true_and, e_comp, get_last, Jt.D, s_gg, mkg, Jt.w, Jt.m, Jt.l]
  · simp only [m_joint_glue, lp_joint_glue_0, e_var, e_vget, e_c, e_op, e_op1, e_un, e_nil, e_cons, e_cons1, e_cons2, e_a0, e_ka0, e_app, e_app1, e_app2, e_tup, kT1, kT2, kT3, kT4, kT5, kT7, e_lst, kL0, kL1, kL2, kL3, kL4, kL5, e_test, e_ktest, e_and, e_andT, e_andF, e_or, e_orT, e_orF, e_not, e_knot, e_if, e_ifT, e_ifF, e_andv, e_andvT, e_andvF, e_orv, e_orvT, e_orvF, e_notv, e_knotv, e_ch, e_ch1, e_ch2, e_ch3T, e_ch3F, e_cb, e_call, e_make, e_fld, e_kfld, e_setf, e_setf1, e_setf2, e_seq, e_next, e_break, e_cont, e_expr, e_nx, e_ret, e_rt, e_retn, e_ifs, e_ifsT, e_ifsF, e_set, e_kset, e_asg, e_kasg, e_as2, e_gn, e_gtp, e_gto, e_gs0, e_gs1, e_for, e_rng1, e_rng2, e_srca, e_srcr, e_srco, e_srct, e_srcs, e_nop, e_part, e_kpart, e_sl, e_sl1, e_sl2, e_dslt, e_bm, e_kbm, e_bmo, e_add, e_sub, e_own1, e_mull, e_mulr, e_div, e_mod, e_neg, e_lt, e_gt, e_le, e_ge, e_eq, e_ne, e_eqs, e_eqb, e_ixt, e_ixs, e_ixr, e_ixo, e_ixR, at0, at1, at2, at3, at4, at5, at6, e_int, e_intT, e_intF, e_abs, e_min, e_max, e_lent, e_lens, e_lenr, e_leno, e_sumt, e_sumr, e_sumo, e_ftup, e_tupo, e_apnd, e_clr, e_clro, e_gix, e_gi1, e_gi2, e_gi0, e_giB, e_tru, e_trub, e_isi, e_isir, fin_nx, fin_rt, fin_ex, b_bind, b_st, b_nx, b_thn, b_thr, b_thb, b_thc, List.getElem?_cons_zero, List.getElem?_cons_succ, List.set_cons_zero, List.set_cons_succ, decide_true, decide_false, Bool.not_true, Bool.not_false, List.cons_append, List.nil_append, List.length_map, eq_self, Int.reduceLT, Int.reduceLE, and_self, and_true, true_and, e_comp, get_last, Jt.D, s_hg, mkg, Jt.w, Jt.m, Jt.l]
end
theorem glu_eq {a b c a' b' c' : Int} (h1 : a = a') (h2 : b = b') (h3 : c = c') : some (glu a b c) = some (glu a' b' c') := by rw [h1, h2, h3]
theorem ext_go {r : Row} (ok : r.OK) {hp : DH} {n x : Nat} {i j l : Int} (hx : 0 < x) (hx2 : x < r.ws.length) (h : hp[n]? = some (glu i j l)) :
    ∃ (n' : Nat) (hp' : DH), run_extended_glue [r.D, .ref n, .int (x : Int)] hp = .ok (.ref n') hp' ∧ Px hp hp' ∧ hp'[n']? = some (glu (i + (r.j (x - 1)).w + r.w x) (j + (r.j (x - 1)).m) (l + (r.j (x - 1)).l)) := by
  have aj := ok.atj (i := x - 1) (by omega)
  rw [show ((x - 1 : Nat) : Int) = (x : Int) - 1 by omega] at aj
  have aw := ok.atw (i := x) hx2
  generalize r.j (x - 1) = t at aj ⊢
  rw [ent_extended_glue]
  have a1 := own_add (alt := dAdd) (hp := hp ++ [glu t.w t.m t.l]) (get_app h) get_last
  have a2 := own_add (alt := dAdd) (n := (hp ++ [glu t.w t.m t.l]).length) (m := ((hp ++ [glu t.w t.m t.l]) ++ [glu (i + t.w) (j + t.m) (l + t.l)]).length) (hp := ((hp ++ [glu t.w t.m t.l]) ++ [glu (i + t.w) (j + t.m) (l + t.l)]) ++ [glu (r.w x) 0 0]) (get_app get_last) get_last
  simp only [m_extended_glue, e_var, e_vget, e_c, e_op, e_op1, e_un, e_nil, e_cons, e_cons1, e_cons2, e_a0, e_ka0, e_app, e_app1, e_app2, e_tup, kT1, kT2, kT3, kT4, kT5, kT7, e_lst, kL0, kL1, kL2, kL3, kL4, kL5, e_test, e_ktest, e_and, e_andT, e_andF, e_or, e_orT, e_orF, e_not, e_knot, e_if, e_ifT, e_ifF, e_andv, e_andvT, e_andvF, e_orv, e_orvT, e_orvF, e_notv, e_knotv, e_ch, e_ch1, e_ch2, e_ch3T, e_ch3F, e_cb, e_call, e_make, e_fld, e_kfld, e_setf, e_setf1, e_setf2, e_seq, e_next, e_break, e_cont, e_expr, e_nx, e_ret, e_rt, e_retn, e_ifs, e_ifsT, e_ifsF, e_set, e_kset, e_asg, e_kasg, e_as2, e_gn, e_gtp, e_gto, e_gs0, e_gs1, e_for, e_rng1, e_rng2, e_srca, e_srcr, e_srco, e_srct, e_srcs, e_nop, e_part, e_kpart, e_sl, e_sl1, e_sl2, e_dslt, e_bm, e_kbm, e_bmo, e_add, e_sub, e_own1, e_mull, e_mulr, e_div, e_mod, e_neg, e_lt, e_gt, e_le, e_ge, e_eq, e_ne, e_eqs, e_eqb, e_ixt, e_ixs, e_ixr, e_ixo, e_ixR, at0, at1, at2, at3, at4, at5, at6, e_int, e_intT, e_intF, e_abs, e_min, e_max, e_lent, e_lens, e_lenr, e_leno, e_sumt, e_sumr, e_sumo, e_ftup, e_tupo, e_apnd, e_clr, e_clro, e_gix, e_gi1, e_gi2, e_gi0, e_giB, e_tru, e_trub, e_isi, e_isir, fin_nx, fin_rt, fin_ex, b_bind, b_st, b_nx, b_thn, b_thr, b_thb, b_thc, List.getElem?_cons_zero, List.getElem?_cons_succ, List.set_cons_zero, List.set_cons_succ, decide_true, decide_false, Bool.not_true, Bool.not_false, List.cons_append, List.nil_append, List.length_map, eq_self, Int.reduceLT, Int.reduceLE, and_self, and_true, true_and, e_comp, get_last, Row.D, aj, aw, jg_go, a1, mkg, a2]
  refine ⟨_, _, rfl, ((((Px.app _ _).trans (Px.app _ _)).trans (Px.app _ _)).trans (Px.app _ _)), ?_⟩
  rw [get_last]; simp
theorem hy_go {r : Row} (ok : r.OK) {hp : DH} {e : Nat} (he : 0 < e) (he2 : e ≤ r.ws.length) :
    run_ends_at_hyphen [r.D, .int (e : Int)] hp = .ok (.bl (decide (e < r.ws.length) && (match r.j (e - 1) with | .hyp _ _ => true | _ => false))) hp := by
  rw [ent_ends_at_hyphen]
  simp only [m_ends_at_hyphen, e_var, e_vget, e_c, e_op, e_op1, e_un, e_nil, e_cons, e_cons1, e_cons2, e_a0, e_ka0, e_app, e_app1, e_app2, e_tup, kT1, kT2, kT3, kT4, kT5, kT7, e_lst, kL0, kL1, kL2, kL3, kL4, kL5, e_test, e_ktest, e_and, e_andT, e_andF, e_or, e_orT, e_orF, e_not, e_knot, e_if, e_ifT, e_ifF, e_andv, e_andvT, e_andvF, e_orv, e_orvT, e_orvF, e_notv, e_knotv, e_ch, e_ch1, e_ch2, e_ch3T, e_ch3F, e_cb, e_call, e_make, e_fld, e_kfld, e_setf, e_setf1, e_setf2, e_seq, e_next, e_break, e_cont, e_expr, e_nx, e_ret, e_rt, e_retn, e_ifs, e_ifsT, e_ifsF, e_set, e_kset, e_asg, e_kasg, e_as2, e_gn, e_gtp, e_gto, e_gs0, e_gs1, e_for, e_rng1, e_rng2, e_srca, e_srcr, e_srco, e_srct, e_srcs, e_nop, e_part, e_kpart, e_sl, e_sl1, e_sl2, e_dslt, e_bm, e_kbm, e_bmo, e_add, e_sub, e_own1, e_mull, e_mulr, e_div, e_mod, e_neg, e_lt, e_gt, e_le, e_ge, e_eq, e_ne, e_eqs, e_eqb, e_ixt, e_ixs, e_ixr, e_ixo, e_ixR, at0, at1, at2, at3, at4, at5, at6, e_int, e_intT, e_intF, e_abs, e_min, e_max, e_lent, e_lens, e_lenr, e_leno, e_sumt, e_sumr, e_sumo, e_ftup, e_tupo, e_apnd, e_clr, e_clro, e_gix, e_gi1, e_gi2, e_gi0, e_giB, e_tru, e_trub, e_isi, e_isir, fin_nx, fin_rt, fin_ex, b_bind, b_st, b_nx, b_thn, b_thr, b_thb, b_thc, List.getElem?_cons_zero, List.getElem?_cons_succ, List.set_cons_zero, List.set_cons_succ, decide_true, decide_false, Bool.not_true, Bool.not_false, List.cons_append, List.nil_append, List.length_map, eq_self, Int.reduceLT, Int.reduceLE, and_self, and_true, true_and, e_comp, get_last, Row.D]
  by_cases h : e < r.ws.length
  · have aj := ok.atj (i := e - 1) (by omega)
    rw [show ((e - 1 : Nat) : Int) = (e : Int) - 1 by omega] at aj
    have hi : (e : Int) < (r.ws.length : Int) := by omega
    rcases hj : r.j (e - 1) with ⟨w, m, l⟩ | ⟨m, b⟩
    · rw [hj] at aj
      simp only [hi, e_var, e_vget, e_c, e_op, e_op1, e_un, e_nil, e_cons, e_cons1, e_cons2, e_a0, e_ka0, e_app, e_app1, e_app2, e_tup, kT1, kT2, kT3, kT4, kT5, kT7, e_lst, kL0, kL1, kL2, kL3, kL4, kL5, e_test, e_ktest, e_and, e_andT, e_andF, e_or, e_orT, e_orF, e_not, e_knot, e_if, e_ifT, e_ifF, e_andv, e_andvT, e_andvF, e_orv, e_orvT, e_orvF, e_notv, e_knotv, e_ch, e_ch1, e_ch2, e_ch3T, e_ch3F, e_cb, e_call, e_make, e_fld, e_kfld, e_setf, e_setf1, e_setf2, e_seq, e_next, e_break, e_cont, e_expr, e_nx, e_ret, e_rt, e_retn, e_ifs, e_ifsT, e_ifsF, e_set, e_kset, e_asg, e_kasg, e_as2, e_gn, e_gtp, e_gto, e_gs0, e_gs1, e_for, e_rng1, e_rng2, e_srca, e_srcr, e_srco, e_srct, e_srcs, e_nop, e_part, e_kpart, e_sl, e_sl1, e_sl2, e_dslt, e_bm, e_kbm, e_bmo, e_add, e_sub, e_own1, e_mull, e_mulr, e_div, e_mod, e_neg, e_lt, e_gt, e_le, e_ge, e_eq, e_ne, e_eqs, e_eqb, e_ixt, e_ixs, e_ixr, e_ixo, e_ixR, at0, at1, at2, at3, at4, at5, at6, e_int, e_intT, e_intF, e_abs, e_min, e_max, e_lent, e_lens, e_lenr, e_leno, e_sumt, e_sumr, e_sumo, e_ftup, e_tupo, e_apnd, e_clr, e_clro, e_gix, e_gi1, e_gi2, e_gi0, e_giB, e_tru, e_trub, e_isi, e_isir, fin_nx, fin_rt, fin_ex, b_bind, b_st, b_nx, b_thn, b_thr, b_thb, b_thc, List.getElem?_cons_zero, List.getElem?_cons_succ, List.set_cons_zero, List.set_cons_succ, decide_true, decide_false, Bool.not_true, Bool.not_false, List.cons_append, List.nil_append, List.length_map, eq_self, Int.reduceLT, Int.reduceLE, and_self, and_true, true_and, e_comp, get_last, aj, Jt.D, s_gh, h]; rfl
    · rw [hj] at aj
      simp only [hi, e_var, e_vget, e_c, e_op, e_op1, e_un, e_nil, e_cons, e_cons1, e_cons2, e_a0, e_ka0, e_app, e_app1, e_app2, e_tup, kT1, kT2, kT3, kT4, kT5, kT7, e_lst, kL0, kL1, kL2, kL3, kL4, kL5, e_test, e_ktest, e_and, e_andT, e_andF, e_or, e_orT, e_orF, e_not, e_knot, e_if, e_ifT, e_ifF, e_andv, e_andvT, e_andvF, e_orv, e_orvT, e_orvF, e_notv, e_knotv, e_ch, e_ch1, e_ch2, e_ch3T, e_ch3F, e_cb, e_call, e_make, e_fld, e_kfld, e_setf, e_setf1, e_setf2, e_seq, e_next, e_break, e_cont, e_expr, e_nx, e_ret, e_rt, e_retn, e_ifs, e_ifsT, e_ifsF, e_set, e_kset, e_asg, e_kasg, e_as2, e_gn, e_gtp, e_gto, e_gs0, e_gs1, e_for, e_rng1, e_rng2, e_srca, e_srcr, e_srco, e_srct, e_srcs, e_nop, e_part, e_kpart, e_sl, e_sl1, e_sl2, e_dslt, e_bm, e_kbm, e_bmo, e_add, e_sub, e_own1, e_mull, e_mulr, e_div, e_mod, e_neg, e_lt, e_gt, e_le, e_ge, e_eq, e_ne, e_eqs, e_eqb, e_ixt, e_ixs, e_ixr, e_ixo, e_ixR, at0, at1, at2, at3, at4, at5, at6, e_int, e_intT, e_intF, e_abs, e_min, e_max, e_lent, e_lens, e_lenr, e_leno, e_sumt, e_sumr, e_sumo, e_ftup, e_tupo, e_apnd, e_clr, e_clro, e_gix, e_gi1, e_gi2, e_gi0, e_giB, e_tru, e_trub, e_isi, e_isir, fin_nx, fin_rt, fin_ex, b_bind, b_st, b_nx, b_thn, b_thr, b_thb, b_thc, List.getElem?_cons_zero, List.getElem?_cons_succ, List.set_cons_zero, List.set_cons_succ, decide_true, decide_false, Bool.not_true, Bool.not_false, List.cons_append, List.nil_append, List.length_map, eq_self, Int.reduceLT, Int.reduceLE, and_self, and_true, true_and, e_comp, get_last, aj, Jt.D, s_hh, h]; rfl
  · have hi : ¬ (e : Int) < (r.ws.length : Int) := by omega
    simp only [hi, e_var, e_vget, e_c, e_op, e_op1, e_un, e_nil, e_cons, e_cons1, e_cons2, e_a0, e_ka0, e_app, e_app1, e_app2, e_tup, kT1, kT2, kT3, kT4, kT5, kT7, e_lst, kL0, kL1, kL2, kL3, kL4, kL5, e_test, e_ktest, e_and, e_andT, e_andF, e_or, e_orT, e_orF, e_not, e_knot, e_if, e_ifT, e_ifF, e_andv, e_andvT, e_andvF, e_orv, e_orvT, e_orvF, e_notv, e_knotv, e_ch, e_ch1, e_ch2, e_ch3T, e_ch3F, e_cb, e_call, e_make, e_fld, e_kfld, e_setf, e_setf1, e_setf2, e_seq, e_next, e_break, e_cont, e_expr, e_nx, e_ret, e_rt, e_retn, e_ifs, e_ifsT, e_ifsF, e_set, e_kset, e_asg, e_kasg, e_as2, e_gn, e_gtp, e_gto, e_gs0, e_gs1, e_for, e_rng1, e_rng2, e_srca, e_srcr, e_srco, e_srct, e_srcs, e_nop, e_part, e_kpart, e_sl, e_sl1, e_sl2, e_dslt, e_bm, e_kbm, e_bmo, e_add, e_sub, e_own1, e_mull, e_mulr, e_div, e_mod, e_neg, e_lt, e_gt, e_le, e_ge, e_eq, e_ne, e_eqs, e_eqb, e_ixt, e_ixs, e_ixr, e_ixo, e_ixR, at0, at1, at2, at3, at4, at5, at6, e_int, e_intT, e_intF, e_abs, e_min, e_max, e_lent, e_lens, e_lenr, e_leno, e_sumt, e_sumr, e_sumo, e_ftup, e_tupo, e_apnd, e_clr, e_clro, e_gix, e_gi1, e_gi2, e_gi0, e_giB, e_tru, e_trub, e_isi, e_isir, fin_nx, fin_rt, fin_ex, b_bind, b_st, b_nx, b_thn, b_thr, b_thb, b_thc, List.getElem?_cons_zero, List.getElem?_cons_succ, List.set_cons_zero, List.set_cons_succ, decide_true, decide_false, Bool.not_true, Bool.not_false, List.cons_append, List.nil_append, List.length_map, eq_self, Int.reduceLT, Int.reduceLE, and_self, and_true, true_and, e_comp, get_last, h]; rfl
theorem fin_go {r : Row} (ok : r.OK) {hp : DH} {n e : Nat} {i j l : Int} (he : 0 < e) (he2 : e ≤ r.ws.length) (h : hp[n]? = some (glu i j l)) :
    ∃ (n' : Nat) (hp' : DH), run_finished_glue [r.D, .ref n, .int (e : Int)] hp = .ok (.ref n') hp' ∧ Px hp hp' ∧ hp'[n']? = some (glu (i + (if e < r.ws.length then (r.j (e - 1)).h else 0)) j l) := by
  have hg := hy_go ok (hp := hp) he he2
  rw [ent_finished_glue]
  simp only [Row.D] at hg
  simp only [m_finished_glue, e_var, e_vget, e_c, e_op, e_op1, e_un, e_nil, e_cons, e_cons1, e_cons2, e_a0, e_ka0, e_app, e_app1, e_app2, e_tup, kT1, kT2, kT3, kT4, kT5, kT7, e_lst, kL0, kL1, kL2, kL3, kL4, kL5, e_test, e_ktest, e_and, e_andT, e_andF, e_or, e_orT, e_orF, e_not, e_knot, e_if, e_ifT, e_ifF, e_andv, e_andvT, e_andvF, e_orv, e_orvT, e_orvF, e_notv, e_knotv, e_ch, e_ch1, e_ch2, e_ch3T, e_ch3F, e_cb, e_call, e_make, e_fld, e_kfld, e_setf, e_setf1, e_setf2, e_seq, e_next, e_break, e_cont, e_expr, e_nx, e_ret, e_rt, e_retn, e_ifs, e_ifsT, e_ifsF, e_set, e_kset, e_asg, e_kasg, e_as2, e_gn, e_gtp, e_gto, e_gs0, e_gs1, e_for, e_rng1, e_rng2, e_srca, e_srcr, e_srco, e_srct, e_srcs, e_nop, e_part, e_kpart, e_sl, e_sl1, e_sl2, e_dslt, e_bm, e_kbm, e_bmo, e_add, e_sub, e_own1, e_mull, e_mulr, e_div, e_mod, e_neg, e_lt, e_gt, e_le, e_ge, e_eq, e_ne, e_eqs, e_eqb, e_ixt, e_ixs, e_ixr, e_ixo, e_ixR, at0, at1, at2, at3, at4, at5, at6, e_int, e_intT, e_intF, e_abs, e_min, e_max, e_lent, e_lens, e_lenr, e_leno, e_sumt, e_sumr, e_sumo, e_ftup, e_tupo, e_apnd, e_clr, e_clro, e_gix, e_gi1, e_gi2, e_gi0, e_giB, e_tru, e_trub, e_isi, e_isir, fin_nx, fin_rt, fin_ex, b_bind, b_st, b_nx, b_thn, b_thr, b_thb, b_thc, List.getElem?_cons_zero, List.getElem?_cons_succ, List.set_cons_zero, List.set_cons_succ, decide_true, decide_false, Bool.not_true, Bool.not_false, List.cons_append, List.nil_append, List.length_map, eq_self, Int.reduceLT, Int.reduceLE, and_self, and_true, true_and, e_comp, get_last, Row.D, hg]
  by_cases h1 : e < r.ws.length
  · have aj := ok.atj (i := e - 1) (by omega)
    rw [show ((e - 1 : Nat) : Int) = (e : Int) - 1 by omega] at aj
    rcases hj : r.j (e - 1) with ⟨w, m, l⟩ | ⟨m, b⟩
    · simp only [h1, e_var, e_vget, e_c, e_op, e_op1, e_un, e_nil, e_cons, e_cons1, e_cons2, e_a0, e_ka0, e_app, e_app1, e_app2, e_tup, kT1, kT2, kT3, kT4, kT5, kT7, e_lst, kL0, kL1, kL2, kL3, kL4, kL5, e_test, e_ktest, e_and, e_andT, e_andF, e_or, e_orT, e_orF, e_not, e_knot, e_if, e_ifT, e_ifF, e_andv, e_andvT, e_andvF, e_orv, e_orvT, e_orvF, e_notv, e_knotv, e_ch, e_ch1, e_ch2, e_ch3T, e_ch3F, e_cb, e_call, e_make, e_fld, e_kfld, e_setf, e_setf1, e_setf2, e_seq, e_next, e_break, e_cont, e_expr, e_nx, e_ret, e_rt, e_retn, e_ifs, e_ifsT, e_ifsF, e_set, e_kset, e_asg, e_kasg, e_as2, e_gn, e_gtp, e_gto, e_gs0, e_gs1, e_for, e_rng1, e_rng2, e_srca, e_srcr, e_srco, e_srct, e_srcs, e_nop, e_part, e_kpart, e_sl, e_sl1, e_sl2, e_dslt, e_bm, e_kbm, e_bmo, e_add, e_sub, e_own1, e_mull, e_mulr, e_div, e_mod, e_neg, e_lt, e_gt, e_le, e_ge, e_eq, e_ne, e_eqs, e_eqb, e_ixt, e_ixs, e_ixr, e_ixo, e_ixR, at0, at1, at2, at3, at4, at5, at6, e_int, e_intT, e_intF, e_abs, e_min, e_max, e_lent, e_lens, e_lenr, e_leno, e_sumt, e_sumr, e_sumo, e_ftup, e_tupo, e_apnd, e_clr, e_clro, e_gix, e_gi1, e_gi2, e_gi0, e_giB, e_tru, e_trub, e_isi, e_isir, fin_nx, fin_rt, fin_ex, b_bind, b_st, b_nx, b_thn, b_thr, b_thb, b_thc, List.getElem?_cons_zero, List.getElem?_cons_succ, List.set_cons_zero, List.set_cons_succ, decide_true, decide_false, Bool.not_true, Bool.not_false, List.cons_append, List.nil_append, List.length_map, eq_self, Int.reduceLT, Int.reduceLE, and_self, and_true, true_and, e_comp, get_last, Bool.and_false, if_true, Jt.h]
      exact ⟨_, _, rfl, Px.refl _, by rw [h]; simp⟩
    · rw [hj] at aj
      have a1 := own_add (alt := dAdd) (hp := hp ++ [glu m 0 0]) (get_app h) get_last
      simp only [h1, e_var, e_vget, e_c, e_op, e_op1, e_un, e_nil, e_cons, e_cons1, e_cons2, e_a0, e_ka0, e_app, e_app1, e_app2, e_tup, kT1, kT2, kT3, kT4, kT5, kT7, e_lst, kL0, kL1, kL2, kL3, kL4, kL5, e_test, e_ktest, e_and, e_andT, e_andF, e_or, e_orT, e_orF, e_not, e_knot, e_if, e_ifT, e_ifF, e_andv, e_andvT, e_andvF, e_orv, e_orvT, e_orvF, e_notv, e_knotv, e_ch, e_ch1, e_ch2, e_ch3T, e_ch3F, e_cb, e_call, e_make, e_fld, e_kfld, e_setf, e_setf1, e_setf2, e_seq, e_next, e_break, e_cont, e_expr, e_nx, e_ret, e_rt, e_retn, e_ifs, e_ifsT, e_ifsF, e_set, e_kset, e_asg, e_kasg, e_as2, e_gn, e_gtp, e_gto, e_gs0, e_gs1, e_for, e_rng1, e_rng2, e_srca, e_srcr, e_srco, e_srct, e_srcs, e_nop, e_part, e_kpart, e_sl, e_sl1, e_sl2, e_dslt, e_bm, e_kbm, e_bmo, e_add, e_sub, e_own1, e_mull, e_mulr, e_div, e_mod, e_neg, e_lt, e_gt, e_le, e_ge, e_eq, e_ne, e_eqs, e_eqb, e_ixt, e_ixs, e_ixr, e_ixo, e_ixR, at0, at1, at2, at3, at4, at5, at6, e_int, e_intT, e_intF, e_abs, e_min, e_max, e_lent, e_lens, e_lenr, e_leno, e_sumt, e_sumr, e_sumo, e_ftup, e_tupo, e_apnd, e_clr, e_clro, e_gix, e_gi1, e_gi2, e_gi0, e_giB, e_tru, e_trub, e_isi, e_isir, fin_nx, fin_rt, fin_ex, b_bind, b_st, b_nx, b_thn, b_thr, b_thb, b_thc, List.getElem?_cons_zero, List.getElem?_cons_succ, List.set_cons_zero, List.set_cons_succ, decide_true, decide_false, Bool.not_true, Bool.not_false, List.cons_append, List.nil_append, List.length_map, eq_self, Int.reduceLT, Int.reduceLE, and_self, and_true, true_and, e_comp, get_last, Bool.and_true, if_true, Jt.h, aj, Jt.D, mkg, a1]
      refine ⟨_, _, rfl, (Px.app _ _).trans (Px.app _ _), ?_⟩
      rw [get_last]; simp
  · simp only [h1, e_var, e_vget, e_c, e_op, e_op1, e_un, e_nil, e_cons, e_cons1, e_cons2, e_a0, e_ka0, e_app, e_app1, e_app2, e_tup, kT1, kT2, kT3, kT4, kT5, kT7, e_lst, kL0, kL1, kL2, kL3, kL4, kL5, e_test, e_ktest, e_and, e_andT, e_andF, e_or, e_orT, e_orF, e_not, e_knot, e_if, e_ifT, e_ifF, e_andv, e_andvT, e_andvF, e_orv, e_orvT, e_orvF, e_notv, e_knotv, e_ch, e_ch1, e_ch2, e_ch3T, e_ch3F, e_cb, e_call, e_make, e_fld, e_kfld, e_setf, e_setf1, e_setf2, e_seq, e_next, e_break, e_cont, e_expr, e_nx, e_ret, e_rt, e_retn, e_ifs, e_ifsT, e_ifsF, e_set, e_kset, e_asg, e_kasg, e_as2, e_gn, e_gtp, e_gto, e_gs0, e_gs1, e_for, e_rng1, e_rng2, e_srca, e_srcr, e_srco, e_srct, e_srcs, e_nop, e_part, e_kpart, e_sl, e_sl1, e_sl2, e_dslt, e_bm, e_kbm, e_bmo, e_add, e_sub, e_own1, e_mull, e_mulr, e_div, e_mod, e_neg, e_lt, e_gt, e_le, e_ge, e_eq, e_ne, e_eqs, e_eqb, e_ixt, e_ixs, e_ixr, e_ixo, e_ixR, at0, at1, at2, at3, at4, at5, at6, e_int, e_intT, e_intF, e_abs, e_min, e_max, e_lent, e_lens, e_lenr, e_leno, e_sumt, e_sumr, e_sumo, e_ftup, e_tupo, e_apnd, e_clr, e_clro, e_gix, e_gi1, e_gi2, e_gi0, e_giB, e_tru, e_trub, e_isi, e_isir, fin_nx, fin_rt, fin_ex, b_bind, b_st, b_nx, b_thn, b_thr, b_thb, b_thc, List.getElem?_cons_zero, List.getElem?_cons_succ, List.set_cons_zero, List.set_cons_succ, decide_true, decide_false, Bool.not_true, Bool.not_false, List.cons_append, List.nil_append, List.length_map, eq_self, Int.reduceLT, Int.reduceLE, and_self, and_true, true_and, e_comp, get_last, Bool.false_and, if_false]
    exact ⟨_, _, rfl, Px.refl _, by rw [h]; simp⟩
theorem lg_go {r : Row} (ok : r.OK) {hp : DH} {s e : Nat} (h1 : s < e) (h2 : e ≤ r.ws.length) :
    ∃ (n' : Nat) (hp' : DH), run_line_glue [r.D, .int (s : Int), .int (e : Int)] hp = .ok (.ref n') hp' ∧ Px hp hp' ∧ hp'[n']? = some (glu (gW r s e) (gM r s e) (gL r s e)) := by
  have hmax := ok.max
  have aw := ok.atw (i := s) (by omega)
  have hr := kRng2_ok (hp := hp ++ [glu (r.w s) 0 0]) (show -4611686018427387904 ≤ (s : Int) + 1 ∧ (s : Int) + 1 < 4611686018427387904 ∧ -4611686018427387904 ≤ (e : Int) ∧ (e : Int) < 4611686018427387904 by omega)
  rw [ent_line_glue]
  obtain ⟨env', hp', ef, n, x, rfl, px, hn⟩ := for_rng (j := 4) (b := lp_line_glue_0) (lo := (s : Int) + 1) (n := ((e : Int) - (s + 1)).toNat) (hp := hp ++ [glu (r.w s) 0 0]) (env := [some r.D, some (.int (s : Int)), some (.int (e : Int)), some (.ref hp.length), none])
    (fun i env' hp' => ∃ n x, env' = [some r.D, some (.int (s : Int)), some (.int (e : Int)), some (.ref n), x] ∧ Px hp hp' ∧ hp'[n]? = some (glu ((S r.w (s + 1 + i) - S r.w s) + (S (fun i => (r.j i).w) (s + i) - S (fun i => (r.j i).w) s)) (S (fun i => (r.j i).m) (s + i) - S (fun i => (r.j i).m) s) (S (fun i => (r.j i).l) (s + i) - S (fun i => (r.j i).l) s)))
    ⟨_, _, rfl, Px.app _ _, by
      rw [get_last]
      have : S r.w (s + 1) = S r.w s + r.w s := rfl
      exact glu_eq (by simp only [Nat.add_zero, this]; omega) (by simp) (by simp)⟩ (by
      rintro i env hp1 hi ⟨n, x, rfl, px, hn⟩
      obtain ⟨n', hp', e1, px', hn'⟩ := ext_go ok (x := s + 1 + i) (by omega) (by omega) hn
      rw [show ((s + 1 + i : Nat) : Int) = (s : Int) + 1 + i by omega] at e1
      simp only [lp_line_glue_0, e_var, e_vget, e_c, e_op, e_op1, e_un, e_nil, e_cons, e_cons1, e_cons2, e_a0, e_ka0, e_app, e_app1, e_app2, e_tup, kT1, kT2, kT3, kT4, kT5, kT7, e_lst, kL0, kL1, kL2, kL3, kL4, kL5, e_test, e_ktest, e_and, e_andT, e_andF, e_or, e_orT, e_orF, e_not, e_knot, e_if, e_ifT, e_ifF, e_andv, e_andvT, e_andvF, e_orv, e_orvT, e_orvF, e_notv, e_knotv, e_ch, e_ch1, e_ch2, e_ch3T, e_ch3F, e_cb, e_call, e_make, e_fld, e_kfld, e_setf, e_setf1, e_setf2, e_seq, e_next, e_break, e_cont, e_expr, e_nx, e_ret, e_rt, e_retn, e_ifs, e_ifsT, e_ifsF, e_set, e_kset, e_asg, e_kasg, e_as2, e_gn, e_gtp, e_gto, e_gs0, e_gs1, e_for, e_rng1, e_rng2, e_srca, e_srcr, e_srco, e_srct, e_srcs, e_nop, e_part, e_kpart, e_sl, e_sl1, e_sl2, e_dslt, e_bm, e_kbm, e_bmo, e_add, e_sub, e_own1, e_mull, e_mulr, e_div, e_mod, e_neg, e_lt, e_gt, e_le, e_ge, e_eq, e_ne, e_eqs, e_eqb, e_ixt, e_ixs, e_ixr, e_ixo, e_ixR, at0, at1, at2, at3, at4, at5, at6, e_int, e_intT, e_intF, e_abs, e_min, e_max, e_lent, e_lens, e_lenr, e_leno, e_sumt, e_sumr, e_sumo, e_ftup, e_tupo, e_apnd, e_clr, e_clro, e_gix, e_gi1, e_gi2, e_gi0, e_giB, e_tru, e_trub, e_isi, e_isir, fin_nx, fin_rt, fin_ex, b_bind, b_st, b_nx, b_thn, b_thr, b_thb, b_thc, List.getElem?_cons_zero, List.getElem?_cons_succ, List.set_cons_zero, List.set_cons_succ, decide_true, decide_false, Bool.not_true, Bool.not_false, List.cons_append, List.nil_append, List.length_map, eq_self, Int.reduceLT, Int.reduceLE, and_self, and_true, true_and, e_comp, get_last, e1]
      refine ⟨_, _, rfl, n', _, rfl, px.trans px', ?_⟩
      rw [hn']
      have e1 : S r.w (s + 1 + (i + 1)) = S r.w (s + 1 + i) + r.w (s + 1 + i) := rfl
      have e2 : S (fun i => (r.j i).w) (s + (i + 1)) = S (fun i => (r.j i).w) (s + i) + (r.j (s + i)).w := rfl
      have e3 : S (fun i => (r.j i).m) (s + (i + 1)) = S (fun i => (r.j i).m) (s + i) + (r.j (s + i)).m := rfl
      have e4 : S (fun i => (r.j i).l) (s + (i + 1)) = S (fun i => (r.j i).l) (s + i) + (r.j (s + i)).l := rfl
      rw [e1, e2, e3, e4, show s + 1 + i - 1 = s + i by omega]
      exact glu_eq (by omega) (by omega) (by omega))
  obtain ⟨n', hp2, e2, px2, hn2⟩ := fin_go ok (e := e) (by omega) h2 hn
  rw [show s + 1 + ((e : Int) - (s + 1)).toNat = e by omega, show s + ((e : Int) - (s + 1)).toNat = e - 1 by omega] at hn2
  simp only [Row.D] at ef e2
  simp only [m_line_glue, lp_line_glue_1, e_var, e_vget, e_c, e_op, e_op1, e_un, e_nil, e_cons, e_cons1, e_cons2, e_a0, e_ka0, e_app, e_app1, e_app2, e_tup, kT1, kT2, kT3, kT4, kT5, kT7, e_lst, kL0, kL1, kL2, kL3, kL4, kL5, e_test, e_ktest, e_and, e_andT, e_andF, e_or, e_orT, e_orF, e_not, e_knot, e_if, e_ifT, e_ifF, e_andv, e_andvT, e_andvF, e_orv, e_orvT, e_orvF, e_notv, e_knotv, e_ch, e_ch1, e_ch2, e_ch3T, e_ch3F, e_cb, e_call, e_make, e_fld, e_kfld, e_setf, e_setf1, e_setf2, e_seq, e_next, e_break, e_cont, e_expr, e_nx, e_ret, e_rt, e_retn, e_ifs, e_ifsT, e_ifsF, e_set, e_kset, e_asg, e_kasg, e_as2, e_gn, e_gtp, e_gto, e_gs0, e_gs1, e_for, e_rng1, e_rng2, e_srca, e_srcr, e_srco, e_srct, e_srcs, e_nop, e_part, e_kpart, e_sl, e_sl1, e_sl2, e_dslt, e_bm, e_kbm, e_bmo, e_add, e_sub, e_own1, e_mull, e_mulr, e_div, e_mod, e_neg, e_lt, e_gt, e_le, e_ge, e_eq, e_ne, e_eqs, e_eqb, e_ixt, e_ixs, e_ixr, e_ixo, e_ixR, at0, at1, at2, at3, at4, at5, at6, e_int, e_intT, e_intF, e_abs, e_min, e_max, e_lent, e_lens, e_lenr, e_leno, e_sumt, e_sumr, e_sumo, e_ftup, e_tupo, e_apnd, e_clr, e_clro, e_gix, e_gi1, e_gi2, e_gi0, e_giB, e_tru, e_trub, e_isi, e_isir, fin_nx, fin_rt, fin_ex, b_bind, b_st, b_nx, b_thn, b_thr, b_thb, b_thc, List.getElem?_cons_zero, List.getElem?_cons_succ, List.set_cons_zero, List.set_cons_succ, decide_true, decide_false, Bool.not_true, Bool.not_false, List.cons_append, List.nil_append, List.length_map, eq_self, Int.reduceLT, Int.reduceLE, and_self, and_true, true_and, e_comp, get_last, Row.D, aw, mkg, hr, ef, e2]
  exact ⟨_, _, rfl, px.trans px2, hn2⟩
def room (s : Nat) (k : Key) : Int := if (s : Int) = 0 then k.wide - k.ind else k.wide
theorem room_go {hp : DH} {m s : Nat} {k : Key} (h : hp[m]? = some (meas k)) : run_room_of [.int (s : Int), .ref m] hp = .ok (.int (room s k)) hp := by
  rw [ent_room_of]
  unfold room
  by_cases hs : (s : Int) = 0
  · simp only [m_room_of, lp_room_of_0, e_var, e_vget, e_c, e_op, e_op1, e_un, e_nil, e_cons, e_cons1, e_cons2, e_a0, e_ka0, e_app, e_app1, e_app2, e_tup, kT1, kT2, kT3, kT4, kT5, kT7, e_lst, kL0, kL1, kL2, kL3, kL4, kL5, e_test, e_ktest, e_and, e_andT, e_andF, e_or, e_orT, e_orF, e_not, e_knot, e_if, e_ifT, e_ifF, e_andv, e_andvT, e_andvF, e_orv, e_orvT, e_orvF, e_notv, e_knotv, e_ch, e_ch1, e_ch2, e_ch3T, e_ch3F, e_cb, e_call, e_make, e_fld, e_kfld, e_setf, e_setf1, e_setf2, e_seq, e_next, e_break, e_cont, e_expr, e_nx, e_ret, e_rt, e_retn, e_ifs, e_ifsT, e_ifsF, e_set, e_kset, e_asg, e_kasg, e_as2, e_gn, e_gtp, e_gto, e_gs0, e_gs1, e_for, e_rng1, e_rng2, e_srca, e_srcr, e_srco, e_srct, e_srcs, e_nop, e_part, e_kpart, e_sl, e_sl1, e_sl2, e_dslt, e_bm, e_kbm, e_bmo, e_add, e_sub, e_own1, e_mull, e_mulr, e_div, e_mod, e_neg, e_lt, e_gt, e_le, e_ge, e_eq, e_ne, e_eqs, e_eqb, e_ixt, e_ixs, e_ixr, e_ixo, e_ixR, at0, at1, at2, at3, at4, at5, at6, e_int, e_intT, e_intF, e_abs, e_min, e_max, e_lent, e_lens, e_lenr, e_leno, e_sumt, e_sumr, e_sumo, e_ftup, e_tupo, e_apnd, e_clr, e_clro, e_gix, e_gi1, e_gi2, e_gi0, e_giB, e_tru, e_trub, e_isi, e_isir, fin_nx, fin_rt, fin_ex, b_bind, b_st, b_nx, b_thn, b_thr, b_thb, b_thc, List.getElem?_cons_zero, List.getElem?_cons_succ, List.set_cons_zero, List.set_cons_succ, decide_true, decide_false, Bool.not_true, Bool.not_false, List.cons_append, List.nil_append, List.length_map, eq_self, Int.reduceLT, Int.reduceLE, and_self, and_true, true_and, e_comp, get_last, hs, h, fm1, fm2, if_true]
  · simp only [m_room_of, lp_room_of_0, e_var, e_vget, e_c, e_op, e_op1, e_un, e_nil, e_cons, e_cons1, e_cons2, e_a0, e_ka0, e_app, e_app1, e_app2, e_tup, kT1, kT2, kT3, kT4, kT5, kT7, e_lst, kL0, kL1, kL2, kL3, kL4, kL5, e_test, e_ktest, e_and, e_andT, e_andF, e_or, e_orT, e_orF, e_not, e_knot, e_if, e_ifT, e_ifF, e_andv, e_andvT, e_andvF, e_orv, e_orvT, e_orvF, e_notv, e_knotv, e_ch, e_ch1, e_ch2, e_ch3T, e_ch3F, e_cb, e_call, e_make, e_fld, e_kfld, e_setf, e_setf1, e_setf2, e_seq, e_next, e_break, e_cont, e_expr, e_nx, e_ret, e_rt, e_retn, e_ifs, e_ifsT, e_ifsF, e_set, e_kset, e_asg, e_kasg, e_as2, e_gn, e_gtp, e_gto, e_gs0, e_gs1, e_for, e_rng1, e_rng2, e_srca, e_srcr, e_srco, e_srct, e_srcs, e_nop, e_part, e_kpart, e_sl, e_sl1, e_sl2, e_dslt, e_bm, e_kbm, e_bmo, e_add, e_sub, e_own1, e_mull, e_mulr, e_div, e_mod, e_neg, e_lt, e_gt, e_le, e_ge, e_eq, e_ne, e_eqs, e_eqb, e_ixt, e_ixs, e_ixr, e_ixo, e_ixR, at0, at1, at2, at3, at4, at5, at6, e_int, e_intT, e_intF, e_abs, e_min, e_max, e_lent, e_lens, e_lenr, e_leno, e_sumt, e_sumr, e_sumo, e_ftup, e_tupo, e_apnd, e_clr, e_clro, e_gix, e_gi1, e_gi2, e_gi0, e_giB, e_tru, e_trub, e_isi, e_isir, fin_nx, fin_rt, fin_ex, b_bind, b_st, b_nx, b_thn, b_thr, b_thb, b_thc, List.getElem?_cons_zero, List.getElem?_cons_succ, List.set_cons_zero, List.set_cons_succ, decide_true, decide_false, Bool.not_true, Bool.not_false, List.cons_append, List.nil_append, List.length_map, eq_self, Int.reduceLT, Int.reduceLE, and_self, and_true, true_and, e_comp, get_last, hs, h, fm1, fm2, if_false]
def extra (both last : Bool) (rest M L m l : Int) : Int := if both = true ∧ rest < 0 then -((-rest * l) / L) else if both = true ∧ 0 < rest ∧ last = false then (rest * m) / M else 0
theorem extra_go {hp : DH} {g b mm : Nat} {k : Key} {rest W M L w m l : Int} {last : Bool} (h1 : hp[g]? = some (glu W M L)) (h2 : hp[b]? = some (glu w m l)) (h3 : hp[mm]? = some (meas k))
    (hl : 0 ≤ l ∧ l ≤ 20000) (hm : 0 ≤ m ∧ m ≤ 20000) (hL : L ≤ 20000) (hM : M ≤ 20000) (n1 : rest < 0 → k.both = true → 0 < L) (n2 : 0 < rest → k.both = true → last = false → 0 < M) :
    run_extra_of [.int rest, .ref g, .ref b, .bl last, .ref mm] hp = .ok (.int (extra k.both last rest M L m l)) hp := by
  have q1 : ∀ x hp, dMul (.int x) (.int l) hp = .ok (.int (x * l)) hp := fun x hp => e_mulr (by omega)
  have q2 : ∀ x hp, dMul (.int x) (.int m) hp = .ok (.int (x * m)) hp := fun x hp => e_mulr (by omega)
  rw [ent_extra_of]
  unfold extra
  simp only [m_extra_of, lp_extra_of_0, e_var, e_vget, e_c, e_op, e_op1, e_un, e_nil, e_cons, e_cons1, e_cons2, e_a0, e_ka0, e_app, e_app1, e_app2, e_tup, kT1, kT2, kT3, kT4, kT5, kT7, e_lst, kL0, kL1, kL2, kL3, kL4, kL5, e_test, e_ktest, e_and, e_andT, e_andF, e_or, e_orT, e_orF, e_not, e_knot, e_if, e_ifT, e_ifF, e_andv, e_andvT, e_andvF, e_orv, e_orvT, e_orvF, e_notv, e_knotv, e_ch, e_ch1, e_ch2, e_ch3T, e_ch3F, e_cb, e_call, e_make, e_fld, e_kfld, e_setf, e_setf1, e_setf2, e_seq, e_next, e_break, e_cont, e_expr, e_nx, e_ret, e_rt, e_retn, e_ifs, e_ifsT, e_ifsF, e_set, e_kset, e_asg, e_kasg, e_as2, e_gn, e_gtp, e_gto, e_gs0, e_gs1, e_for, e_rng1, e_rng2, e_srca, e_srcr, e_srco, e_srct, e_srcs, e_nop, e_part, e_kpart, e_sl, e_sl1, e_sl2, e_dslt, e_bm, e_kbm, e_bmo, e_add, e_sub, e_own1, e_mull, e_mulr, e_div, e_mod, e_neg, e_lt, e_gt, e_le, e_ge, e_eq, e_ne, e_eqs, e_eqb, e_ixt, e_ixs, e_ixr, e_ixo, e_ixR, at0, at1, at2, at3, at4, at5, at6, e_int, e_intT, e_intF, e_abs, e_min, e_max, e_lent, e_lens, e_lenr, e_leno, e_sumt, e_sumr, e_sumo, e_ftup, e_tupo, e_apnd, e_clr, e_clro, e_gix, e_gi1, e_gi2, e_gi0, e_giB, e_tru, e_trub, e_isi, e_isir, fin_nx, fin_rt, fin_ex, b_bind, b_st, b_nx, b_thn, b_thr, b_thb, b_thc, List.getElem?_cons_zero, List.getElem?_cons_succ, List.set_cons_zero, List.set_cons_succ, decide_true, decide_false, Bool.not_true, Bool.not_false, List.cons_append, List.nil_append, List.length_map, eq_self, Int.reduceLT, Int.reduceLE, and_self, and_true, true_and, e_comp, get_last, h1, h2, h3, fg1, fg2, fg3, fm3, sS]
  rcases hb : k.both with _ | _
  · simp only [e_var, e_vget, e_c, e_op, e_op1, e_un, e_nil, e_cons, e_cons1, e_cons2, e_a0, e_ka0, e_app, e_app1, e_app2, e_tup, kT1, kT2, kT3, kT4, kT5, kT7, e_lst, kL0, kL1, kL2, kL3, kL4, kL5, e_test, e_ktest, e_and, e_andT, e_andF, e_or, e_orT, e_orF, e_not, e_knot, e_if, e_ifT, e_ifF, e_andv, e_andvT, e_andvF, e_orv, e_orvT, e_orvF, e_notv, e_knotv, e_ch, e_ch1, e_ch2, e_ch3T, e_ch3F, e_cb, e_call, e_make, e_fld, e_kfld, e_setf, e_setf1, e_setf2, e_seq, e_next, e_break, e_cont, e_expr, e_nx, e_ret, e_rt, e_retn, e_ifs, e_ifsT, e_ifsF, e_set, e_kset, e_asg, e_kasg, e_as2, e_gn, e_gtp, e_gto, e_gs0, e_gs1, e_for, e_rng1, e_rng2, e_srca, e_srcr, e_srco, e_srct, e_srcs, e_nop, e_part, e_kpart, e_sl, e_sl1, e_sl2, e_dslt, e_bm, e_kbm, e_bmo, e_add, e_sub, e_own1, e_mull, e_mulr, e_div, e_mod, e_neg, e_lt, e_gt, e_le, e_ge, e_eq, e_ne, e_eqs, e_eqb, e_ixt, e_ixs, e_ixr, e_ixo, e_ixR, at0, at1, at2, at3, at4, at5, at6, e_int, e_intT, e_intF, e_abs, e_min, e_max, e_lent, e_lens, e_lenr, e_leno, e_sumt, e_sumr, e_sumo, e_ftup, e_tupo, e_apnd, e_clr, e_clro, e_gix, e_gi1, e_gi2, e_gi0, e_giB, e_tru, e_trub, e_isi, e_isir, fin_nx, fin_rt, fin_ex, b_bind, b_st, b_nx, b_thn, b_thr, b_thb, b_thc, List.getElem?_cons_zero, List.getElem?_cons_succ, List.set_cons_zero, List.set_cons_succ, decide_true, decide_false, Bool.not_true, Bool.not_false, List.cons_append, List.nil_append, List.length_map, eq_self, Int.reduceLT, Int.reduceLE, and_self, and_true, true_and, e_comp, get_last, false_and, if_false, Bool.false_eq_true, h1, h2, h3, fm3, sS, hb]
  · by_cases hr : rest < 0
    · simp only [hr, e_var, e_vget, e_c, e_op, e_op1, e_un, e_nil, e_cons, e_cons1, e_cons2, e_a0, e_ka0, e_app, e_app1, e_app2, e_tup, kT1, kT2, kT3, kT4, kT5, kT7, e_lst, kL0, kL1, kL2, kL3, kL4, kL5, e_test, e_ktest, e_and, e_andT, e_andF, e_or, e_orT, e_orF, e_not, e_knot, e_if, e_ifT, e_ifF, e_andv, e_andvT, e_andvF, e_orv, e_orvT, e_orvF, e_notv, e_knotv, e_ch, e_ch1, e_ch2, e_ch3T, e_ch3F, e_cb, e_call, e_make, e_fld, e_kfld, e_setf, e_setf1, e_setf2, e_seq, e_next, e_break, e_cont, e_expr, e_nx, e_ret, e_rt, e_retn, e_ifs, e_ifsT, e_ifsF, e_set, e_kset, e_asg, e_kasg, e_as2, e_gn, e_gtp, e_gto, e_gs0, e_gs1, e_for, e_rng1, e_rng2, e_srca, e_srcr, e_srco, e_srct, e_srcs, e_nop, e_part, e_kpart, e_sl, e_sl1, e_sl2, e_dslt, e_bm, e_kbm, e_bmo, e_add, e_sub, e_own1, e_mull, e_mulr, e_div, e_mod, e_neg, e_lt, e_gt, e_le, e_ge, e_eq, e_ne, e_eqs, e_eqb, e_ixt, e_ixs, e_ixr, e_ixo, e_ixR, at0, at1, at2, at3, at4, at5, at6, e_int, e_intT, e_intF, e_abs, e_min, e_max, e_lent, e_lens, e_lenr, e_leno, e_sumt, e_sumr, e_sumo, e_ftup, e_tupo, e_apnd, e_clr, e_clro, e_gix, e_gi1, e_gi2, e_gi0, e_giB, e_tru, e_trub, e_isi, e_isir, fin_nx, fin_rt, fin_ex, b_bind, b_st, b_nx, b_thn, b_thr, b_thb, b_thc, List.getElem?_cons_zero, List.getElem?_cons_succ, List.set_cons_zero, List.set_cons_succ, decide_true, decide_false, Bool.not_true, Bool.not_false, List.cons_append, List.nil_append, List.length_map, eq_self, Int.reduceLT, Int.reduceLE, and_self, and_true, true_and, e_comp, get_last, h1, h2, fg3, q1, e_div (n1 hr hb) (by omega), and_self, if_true]
    · simp only [hr, e_var, e_vget, e_c, e_op, e_op1, e_un, e_nil, e_cons, e_cons1, e_cons2, e_a0, e_ka0, e_app, e_app1, e_app2, e_tup, kT1, kT2, kT3, kT4, kT5, kT7, e_lst, kL0, kL1, kL2, kL3, kL4, kL5, e_test, e_ktest, e_and, e_andT, e_andF, e_or, e_orT, e_orF, e_not, e_knot, e_if, e_ifT, e_ifF, e_andv, e_andvT, e_andvF, e_orv, e_orvT, e_orvF, e_notv, e_knotv, e_ch, e_ch1, e_ch2, e_ch3T, e_ch3F, e_cb, e_call, e_make, e_fld, e_kfld, e_setf, e_setf1, e_setf2, e_seq, e_next, e_break, e_cont, e_expr, e_nx, e_ret, e_rt, e_retn, e_ifs, e_ifsT, e_ifsF, e_set, e_kset, e_asg, e_kasg, e_as2, e_gn, e_gtp, e_gto, e_gs0, e_gs1, e_for, e_rng1, e_rng2, e_srca, e_srcr, e_srco, e_srct, e_srcs, e_nop, e_part, e_kpart, e_sl, e_sl1, e_sl2, e_dslt, e_bm, e_kbm, e_bmo, e_add, e_sub, e_own1, e_mull, e_mulr, e_div, e_mod, e_neg, e_lt, e_gt, e_le, e_ge, e_eq, e_ne, e_eqs, e_eqb, e_ixt, e_ixs, e_ixr, e_ixo, e_ixR, at0, at1, at2, at3, at4, at5, at6, e_int, e_intT, e_intF, e_abs, e_min, e_max, e_lent, e_lens, e_lenr, e_leno, e_sumt, e_sumr, e_sumo, e_ftup, e_tupo, e_apnd, e_clr, e_clro, e_gix, e_gi1, e_gi2, e_gi0, e_giB, e_tru, e_trub, e_isi, e_isir, fin_nx, fin_rt, fin_ex, b_bind, b_st, b_nx, b_thn, b_thr, b_thb, b_thc, List.getElem?_cons_zero, List.getElem?_cons_succ, List.set_cons_zero, List.set_cons_succ, decide_true, decide_false, Bool.not_true, Bool.not_false, List.cons_append, List.nil_append, List.length_map, eq_self, Int.reduceLT, Int.reduceLE, and_self, and_true, true_and, e_comp, get_last, and_false, if_false, h3, fm3, sS, hb]
      by_cases hr2 : 0 < rest
      · rcases last with _ | _
        · simp only [hr2, e_var, e_vget, e_c, e_op, e_op1, e_un, e_nil, e_cons, e_cons1, e_cons2, e_a0, e_ka0, e_app, e_app1, e_app2, e_tup, kT1, kT2, kT3, kT4, kT5, kT7, e_lst, kL0, kL1, kL2, kL3, kL4, kL5, e_test, e_ktest, e_and, e_andT, e_andF, e_or, e_orT, e_orF, e_not, e_knot, e_if, e_ifT, e_ifF, e_andv, e_andvT, e_andvF, e_orv, e_orvT, e_orvF, e_notv, e_knotv, e_ch, e_ch1, e_ch2, e_ch3T, e_ch3F, e_cb, e_call, e_make, e_fld, e_kfld, e_setf, e_setf1, e_setf2, e_seq, e_next, e_break, e_cont, e_expr, e_nx, e_ret, e_rt, e_retn, e_ifs, e_ifsT, e_ifsF, e_set, e_kset, e_asg, e_kasg, e_as2, e_gn, e_gtp, e_gto, e_gs0, e_gs1, e_for, e_rng1, e_rng2, e_srca, e_srcr, e_srco, e_srct, e_srcs, e_nop, e_part, e_kpart, e_sl, e_sl1, e_sl2, e_dslt, e_bm, e_kbm, e_bmo, e_add, e_sub, e_own1, e_mull, e_mulr, e_div, e_mod, e_neg, e_lt, e_gt, e_le, e_ge, e_eq, e_ne, e_eqs, e_eqb, e_ixt, e_ixs, e_ixr, e_ixo, e_ixR, at0, at1, at2, at3, at4, at5, at6, e_int, e_intT, e_intF, e_abs, e_min, e_max, e_lent, e_lens, e_lenr, e_leno, e_sumt, e_sumr, e_sumo, e_ftup, e_tupo, e_apnd, e_clr, e_clro, e_gix, e_gi1, e_gi2, e_gi0, e_giB, e_tru, e_trub, e_isi, e_isir, fin_nx, fin_rt, fin_ex, b_bind, b_st, b_nx, b_thn, b_thr, b_thb, b_thc, List.getElem?_cons_zero, List.getElem?_cons_succ, List.set_cons_zero, List.set_cons_succ, decide_true, decide_false, Bool.not_true, Bool.not_false, List.cons_append, List.nil_append, List.length_map, eq_self, Int.reduceLT, Int.reduceLE, and_self, and_true, true_and, e_comp, get_last, h1, h2, fg2, q2, e_div (n2 hr2 hb rfl) (by omega), and_self, if_true]
        · simp only [hr2, e_var, e_vget, e_c, e_op, e_op1, e_un, e_nil, e_cons, e_cons1, e_cons2, e_a0, e_ka0, e_app, e_app1, e_app2, e_tup, kT1, kT2, kT3, kT4, kT5, kT7, e_lst, kL0, kL1, kL2, kL3, kL4, kL5, e_test, e_ktest, e_and, e_andT, e_andF, e_or, e_orT, e_orF, e_not, e_knot, e_if, e_ifT, e_ifF, e_andv, e_andvT, e_andvF, e_orv, e_orvT, e_orvF, e_notv, e_knotv, e_ch, e_ch1, e_ch2, e_ch3T, e_ch3F, e_cb, e_call, e_make, e_fld, e_kfld, e_setf, e_setf1, e_setf2, e_seq, e_next, e_break, e_cont, e_expr, e_nx, e_ret, e_rt, e_retn, e_ifs, e_ifsT, e_ifsF, e_set, e_kset, e_asg, e_kasg, e_as2, e_gn, e_gtp, e_gto, e_gs0, e_gs1, e_for, e_rng1, e_rng2, e_srca, e_srcr, e_srco, e_srct, e_srcs, e_nop, e_part, e_kpart, e_sl, e_sl1, e_sl2, e_dslt, e_bm, e_kbm, e_bmo, e_add, e_sub, e_own1, e_mull, e_mulr, e_div, e_mod, e_neg, e_lt, e_gt, e_le, e_ge, e_eq, e_ne, e_eqs, e_eqb, e_ixt, e_ixs, e_ixr, e_ixo, e_ixR, at0, at1, at2, at3, at4, at5, at6, e_int, e_intT, e_intF, e_abs, e_min, e_max, e_lent, e_lens, e_lenr, e_leno, e_sumt, e_sumr, e_sumo, e_ftup, e_tupo, e_apnd, e_clr, e_clro, e_gix, e_gi1, e_gi2, e_gi0, e_giB, e_tru, e_trub, e_isi, e_isir, fin_nx, fin_rt, fin_ex, b_bind, b_st, b_nx, b_thn, b_thr, b_thb, b_thc, List.getElem?_cons_zero, List.getElem?_cons_succ, List.set_cons_zero, List.set_cons_succ, decide_true, decide_false, Bool.not_true, Bool.not_false, List.cons_append, List.nil_append, List.length_map, eq_self, Int.reduceLT, Int.reduceLE, and_self, and_true, true_and, e_comp, get_last, and_false, if_false, Bool.true_eq_false]
      · simp only [hr2, e_var, e_vget, e_c, e_op, e_op1, e_un, e_nil, e_cons, e_cons1, e_cons2, e_a0, e_ka0, e_app, e_app1, e_app2, e_tup, kT1, kT2, kT3, kT4, kT5, kT7, e_lst, kL0, kL1, kL2, kL3, kL4, kL5, e_test, e_ktest, e_and, e_andT, e_andF, e_or, e_orT, e_orF, e_not, e_knot, e_if, e_ifT, e_ifF, e_andv, e_andvT, e_andvF, e_orv, e_orvT, e_orvF, e_notv, e_knotv, e_ch, e_ch1, e_ch2, e_ch3T, e_ch3F, e_cb, e_call, e_make, e_fld, e_kfld, e_setf, e_setf1, e_setf2, e_seq, e_next, e_break, e_cont, e_expr, e_nx, e_ret, e_rt, e_retn, e_ifs, e_ifsT, e_ifsF, e_set, e_kset, e_asg, e_kasg, e_as2, e_gn, e_gtp, e_gto, e_gs0, e_gs1, e_for, e_rng1, e_rng2, e_srca, e_srcr, e_srco, e_srct, e_srcs, e_nop, e_part, e_kpart, e_sl, e_sl1, e_sl2, e_dslt, e_bm, e_kbm, e_bmo, e_add, e_sub, e_own1, e_mull, e_mulr, e_div, e_mod, e_neg, e_lt, e_gt, e_le, e_ge, e_eq, e_ne, e_eqs, e_eqb, e_ixt, e_ixs, e_ixr, e_ixo, e_ixR, at0, at1, at2, at3, at4, at5, at6, e_int, e_intT, e_intF, e_abs, e_min, e_max, e_lent, e_lens, e_lenr, e_leno, e_sumt, e_sumr, e_sumo, e_ftup, e_tupo, e_apnd, e_clr, e_clro, e_gix, e_gi1, e_gi2, e_gi0, e_giB, e_tru, e_trub, e_isi, e_isir, fin_nx, fin_rt, fin_ex, b_bind, b_st, b_nx, b_thn, b_thr, b_thb, b_thc, List.getElem?_cons_zero, List.getElem?_cons_succ, List.set_cons_zero, List.set_cons_succ, decide_true, decide_false, Bool.not_true, Bool.not_false, List.cons_append, List.nil_append, List.length_map, eq_self, Int.reduceLT, Int.reduceLE, and_self, and_true, true_and, e_comp, get_last, and_false, false_and, if_false]
end DL
/-! places and spans -/
namespace DL
open PySem PySem.Spec PyProof.Rows L2
/-- what was, stays -/
def Ol (a b : DH) : Prop := a.length ≤ b.length ∧ ∀ i, i < a.length → b[i]? = a[i]?
theorem Ol.refl (a : DH) : Ol a a := ⟨Nat.le_refl _, fun _ _ => rfl⟩
theorem Ol.trans {a b c : DH} (h : Ol a b) (g : Ol b c) : Ol a c := ⟨Nat.le_trans h.1 g.1, fun i hi => (g.2 i (Nat.lt_of_lt_of_le hi h.1)).trans (h.2 i hi)⟩
theorem Px.ol {a b : DH} (h : Px a b) : Ol a b := by
  obtain ⟨x, rfl⟩ := h
  exact ⟨by simp, fun i hi => List.getElem?_append_left hi⟩
theorem Ol.get {a b : DH} (h : Ol a b) {n : Nat} {o : DO} (e : a[n]? = some o) : b[n]? = some o := (h.2 n (get_lt e)).trans e
theorem Ol.set {n : Nat} {a b : DH} {o : DO} (h : Ol a b) (hn : a.length ≤ n) : Ol a (b.set n o) := ⟨by simpa using h.1, fun i hi => by rw [List.getElem?_set_ne (by omega)]; exact h.2 i hi⟩
def ind0 (s : Nat) (k : Key) : Int := if (s : Int) = 0 then k.ind else 0
def Pl (r : Row) (s : Nat) (k : Key) (i : Nat) : Int := ind0 s k + (S r.w (s + i) - S r.w s) + (S (fun i => (r.j i).w) (s + i) - S (fun i => (r.j i).w) s)
def Bm (r : Row) (s i : Nat) : Int := S (fun i => (r.j i).m) (s + i) - S (fun i => (r.j i).m) s
def Bl (r : Row) (s i : Nat) : Int := S (fun i => (r.j i).l) (s + i) - S (fun i => (r.j i).l) s
def plc (r : Row) (s e : Nat) (k : Key) (i : Nat) : Int := Pl r s k i + extra k.both (decide (e = r.ws.length)) (rest r s e k) (gM r s e) (gL r s e) (Bm r s i) (Bl r s i)
theorem Bm_b {r : Row} (ok : r.OK) {s i : Nat} (h : s + i < r.ws.length) : 0 ≤ Bm r s i ∧ Bm r s i ≤ 20000 := by
  have hmax := ok.max
  have := S_diff (f := fun i => (r.j i).m) (B := 500) (m := s) (n := s + i) (by omega) fun i h3 h4 => (ok.jp i (by omega)).m0
  unfold Bm
  have h5 : ((s + i - s : Nat) : Int) ≤ 40 := by omega
  omega
theorem Bl_b {r : Row} (ok : r.OK) {s i : Nat} (h : s + i < r.ws.length) : 0 ≤ Bl r s i ∧ Bl r s i ≤ 20000 := by
  have hmax := ok.max
  have := S_diff (f := fun i => (r.j i).l) (B := 500) (m := s) (n := s + i) (by omega) fun i h3 h4 => (ok.jp i (by omega)).l0
  unfold Bl
  have h5 : ((s + i - s : Nat) : Int) ≤ 40 := by omega
  omega
theorem rest_eq {r : Row} {s e : Nat} {k : Key} : room s k - gW r s e = rest r s e k := by
  unfold room rest
  split <;> simp
theorem Poss.M {r : Row} {s e : Nat} {k : Key} (ps : Poss r s e k) (kk : k.OK) (hM : 0 ≤ gM r s e) (h : 0 < rest r s e k) (hb : k.both = true) (he : e < r.ws.length) : 0 < gM r s e := by
  have := ps.pos (by omega) hb he
  rcases Int.lt_or_eq_of_le hM with h1 | h1
  · exact h1
  · rw [← h1, Int.mul_zero] at this; omega
theorem places_go {r : Row} (ok : r.OK) {hp : DH} {s e mm : Nat} {k : Key} (kk : k.OK) (h1 : s < e) (h2 : e ≤ r.ws.length) (ps : Poss r s e k) (hm : hp[mm]? = some (meas k)) :
    ∃ (n : Nat) (hp' : DH), run_box_places [r.D, .int (s : Int), .int (e : Int), .ref mm] hp = .ok (.ref n) hp' ∧ hp.length ≤ n ∧ Ol hp hp' ∧ hp'[n]? = some (.lst (((List.range (e - s)).map (plc r s e k)).map D.int)) := by
  have hmax := ok.max
  have hM := gM_b ok h1 h2
  have hL := gL_b ok h1 h2
  rw [ent_box_places]
  obtain ⟨g, hp1, e1, px1, hg⟩ := lg_go ok (hp := hp) h1 h2
  have hm1 := px1.get hm
  have er := room_go (s := s) hm1
  have ei : kIfE (mFld ["Measure"] "indent" (mVar 3)) (mC (.int 0)) [some r.D, some (.int (s : Int)), some (.int (e : Int)), some (.ref mm), some (.tup (r.ws.map .int)), some (.tup (r.js.map Jt.D)), some (.ref g), some (.int (rest r s e k)), some (.bl (decide (e = r.ws.length))), none, none, none, none, none] (decide ((s : Int) = 0)) hp1 = .ok (.int (ind0 s k)) hp1 := by
    unfold ind0
    by_cases hs : (s : Int) = 0
    · simp only [e_var, e_vget, e_c, e_op, e_op1, e_un, e_nil, e_cons, e_cons1, e_cons2, e_a0, e_ka0, e_app, e_app1, e_app2, e_tup, kT1, kT2, kT3, kT4, kT5, kT7, e_lst, kL0, kL1, kL2, kL3, kL4, kL5, e_test, e_ktest, e_and, e_andT, e_andF, e_or, e_orT, e_orF, e_not, e_knot, e_if, e_ifT, e_ifF, e_andv, e_andvT, e_andvF, e_orv, e_orvT, e_orvF, e_notv, e_knotv, e_ch, e_ch1, e_ch2, e_ch3T, e_ch3F, e_cb, e_call, e_make, e_fld, e_kfld, e_setf, e_setf1, e_setf2, e_seq, e_next, e_break, e_cont, e_expr, e_nx, e_ret, e_rt, e_retn, e_ifs, e_ifsT, e_ifsF, e_set, e_kset, e_asg, e_kasg, e_as2, e_gn, e_gtp, e_gto, e_gs0, e_gs1, e_for, e_rng1, e_rng2, e_srca, e_srcr, e_srco, e_srct, e_srcs, e_nop, e_part, e_kpart, e_sl, e_sl1, e_sl2, e_dslt, e_bm, e_kbm, e_bmo, e_add, e_sub, e_own1, e_mull, e_mulr, e_div, e_mod, e_neg, e_lt, e_gt, e_le, e_ge, e_eq, e_ne, e_eqs, e_eqb, e_ixt, e_ixs, e_ixr, e_ixo, e_ixR, at0, at1, at2, at3, at4, at5, at6, e_int, e_intT, e_intF, e_abs, e_min, e_max, e_lent, e_lens, e_lenr, e_leno, e_sumt, e_sumr, e_sumo, e_ftup, e_tupo, e_apnd, e_clr, e_clro, e_gix, e_gi1, e_gi2, e_gi0, e_giB, e_tru, e_trub, e_isi, e_isir, fin_nx, fin_rt, fin_ex, b_bind, b_st, b_nx, b_thn, b_thr, b_thb, b_thc, List.getElem?_cons_zero, List.getElem?_cons_succ, List.set_cons_zero, List.set_cons_succ, decide_true, decide_false, Bool.not_true, Bool.not_false, List.cons_append, List.nil_append, List.length_map, eq_self, Int.reduceLT, Int.reduceLE, and_self, and_true, true_and, e_comp, get_last, hs, hm1, fm2, if_true]
    · simp only [e_var, e_vget, e_c, e_op, e_op1, e_un, e_nil, e_cons, e_cons1, e_cons2, e_a0, e_ka0, e_app, e_app1, e_app2, e_tup, kT1, kT2, kT3, kT4, kT5, kT7, e_lst, kL0, kL1, kL2, kL3, kL4, kL5, e_test, e_ktest, e_and, e_andT, e_andF, e_or, e_orT, e_orF, e_not, e_knot, e_if, e_ifT, e_ifF, e_andv, e_andvT, e_andvF, e_orv, e_orvT, e_orvF, e_notv, e_knotv, e_ch, e_ch1, e_ch2, e_ch3T, e_ch3F, e_cb, e_call, e_make, e_fld, e_kfld, e_setf, e_setf1, e_setf2, e_seq, e_next, e_break, e_cont, e_expr, e_nx, e_ret, e_rt, e_retn, e_ifs, e_ifsT, e_ifsF, e_set, e_kset, e_asg, e_kasg, e_as2, e_gn, e_gtp, e_gto, e_gs0, e_gs1, e_for, e_rng1, e_rng2, e_srca, e_srcr, e_srco, e_srct, e_srcs, e_nop, e_part, e_kpart, e_sl, e_sl1, e_sl2, e_dslt, e_bm, e_kbm, e_bmo, e_add, e_sub, e_own1, e_mull, e_mulr, e_div, e_mod, e_neg, e_lt, e_gt, e_le, e_ge, e_eq, e_ne, e_eqs, e_eqb, e_ixt, e_ixs, e_ixr, e_ixo, e_ixR, at0, at1, at2, at3, at4, at5, at6, e_int, e_intT, e_intF, e_abs, e_min, e_max, e_lent, e_lens, e_lenr, e_leno, e_sumt, e_sumr, e_sumo, e_ftup, e_tupo, e_apnd, e_clr, e_clro, e_gix, e_gi1, e_gi2, e_gi0, e_giB, e_tru, e_trub, e_isi, e_isir, fin_nx, fin_rt, fin_ex, b_bind, b_st, b_nx, b_thn, b_thr, b_thb, b_thc, List.getElem?_cons_zero, List.getElem?_cons_succ, List.set_cons_zero, List.set_cons_succ, decide_true, decide_false, Bool.not_true, Bool.not_false, List.cons_append, List.nil_append, List.length_map, eq_self, Int.reduceLT, Int.reduceLE, and_self, and_true, true_and, e_comp, get_last, hs, if_false]
  have hd : decide ((e : Int) = (r.ws.length : Int)) = decide (e = r.ws.length) := by
    by_cases h : e = r.ws.length <;> simp [h] <;> omega
  have hr := kRng2_ok (hp := (hp1 ++ [glu 0 0 0]) ++ [.lst []]) (show -4611686018427387904 ≤ (s : Int) ∧ (s : Int) < 4611686018427387904 ∧ -4611686018427387904 ≤ (e : Int) ∧ (e : Int) < 4611686018427387904 by omega)
  generalize hpl : (hp1 ++ [glu 0 0 0]).length = pl
  have hpl1 : hp1.length < pl := by rw [← hpl]; simp
  obtain ⟨env', hp', ef, plain, nb, x12, x13, rfl, hplain, hnb, hb, hpp, ol, hgg, hmm⟩ := for_rng (j := 12) (b := lp_box_places_1) (lo := (s : Int)) (n := ((e : Int) - s).toNat) (hp := (hp1 ++ [glu 0 0 0]) ++ [.lst []])
    (env := [some r.D, some (.int (s : Int)), some (.int (e : Int)), some (.ref mm), some (.tup (r.ws.map .int)), some (.tup (r.js.map Jt.D)), some (.ref g), some (.int (rest r s e k)), some (.bl (decide (e = r.ws.length))), some (.int (ind0 s k)), some (.ref hp1.length), some (.ref pl), none, none])
    (fun i env' hp' => ∃ plain nb x12 x13, env' = [some r.D, some (.int (s : Int)), some (.int (e : Int)), some (.ref mm), some (.tup (r.ws.map .int)), some (.tup (r.js.map Jt.D)), some (.ref g), some (.int (rest r s e k)), some (.bl (decide (e = r.ws.length))), some (.int plain), some (.ref nb), some (.ref pl), x12, x13] ∧
      plain = Pl r s k (i - 1) ∧ nb ≠ pl ∧ (∃ w, hp'[nb]? = some (glu w (Bm r s (i - 1)) (Bl r s (i - 1)))) ∧ hp'[pl]? = some (.lst (((List.range i).map (plc r s e k)).map D.int)) ∧ Ol hp hp' ∧ hp'[g]? = some (glu (gW r s e) (gM r s e) (gL r s e)) ∧ hp'[mm]? = some (meas k))
    ⟨_, _, none, none, rfl, by simp [Pl], by omega, ⟨0, by rw [get_app get_last]; exact glu_eq rfl (by simp [Bm]) (by simp [Bl])⟩, by rw [← hpl, get_last]; rfl, (px1.trans ((Px.app _ _).trans (Px.app _ _))).ol, get_app (get_app hg), get_app (get_app hm1)⟩ (by
      rintro i env hp2 hi ⟨plain, nb, x12, x13, rfl, hplain, hnb, ⟨w, hb⟩, hpp, ol, hgg, hmm⟩
      have hap : ∀ (v : Int) (hp : DH), appO pl (.int v) (some (.lst (((List.range i).map (plc r s e k)).map D.int))) hp = .ok .non (hp.set pl (.lst (((List.range i).map (plc r s e k)).map D.int ++ [.int v]))) := fun v hp => e_appo (by simp [sizeLine]; omega)
      have hlist : ((List.range (i + 1)).map (plc r s e k)).map D.int = ((List.range i).map (plc r s e k)).map D.int ++ [.int (plc r s e k i)] := by simp [List.range_succ]
      have hol := ol.1
      have hpl2 := px1.le
      have n1 : rest r s e k < 0 → k.both = true → 0 < gL r s e := fun h _ => by have := (ps.neg h).2; omega
      have n2 : 0 < rest r s e k → k.both = true → decide (e = r.ws.length) = false → 0 < gM r s e := fun h hb hd => ps.M kk hM.1 h hb (by have := of_decide_eq_false hd; omega)
      have hBm := Bm_b ok (s := s) (i := i) (by omega)
      have hBl := Bl_b ok (s := s) (i := i) (by omega)
      by_cases hi0 : i = 0
      · subst hi0
        have ex := extra_go (hp := hp2) (last := decide (e = r.ws.length)) hgg hb hmm hBl hBm hL.2 hM.2 n1 n2
        simp only [lp_box_places_1, lp_box_places_0, e_var, e_vget, e_c, e_op, e_op1, e_un, e_nil, e_cons, e_cons1, e_cons2, e_a0, e_ka0, e_app, e_app1, e_app2, e_tup, kT1, kT2, kT3, kT4, kT5, kT7, e_lst, kL0, kL1, kL2, kL3, kL4, kL5, e_test, e_ktest, e_and, e_andT, e_andF, e_or, e_orT, e_orF, e_not, e_knot, e_if, e_ifT, e_ifF, e_andv, e_andvT, e_andvF, e_orv, e_orvT, e_orvF, e_notv, e_knotv, e_ch, e_ch1, e_ch2, e_ch3T, e_ch3F, e_cb, e_call, e_make, e_fld, e_kfld, e_setf, e_setf1, e_setf2, e_seq, e_next, e_break, e_cont, e_expr, e_nx, e_ret, e_rt, e_retn, e_ifs, e_ifsT, e_ifsF, e_set, e_kset, e_asg, e_kasg, e_as2, e_gn, e_gtp, e_gto, e_gs0, e_gs1, e_for, e_rng1, e_rng2, e_srca, e_srcr, e_srco, e_srct, e_srcs, e_nop, e_part, e_kpart, e_sl, e_sl1, e_sl2, e_dslt, e_bm, e_kbm, e_bmo, e_add, e_sub, e_own1, e_mull, e_mulr, e_div, e_mod, e_neg, e_lt, e_gt, e_le, e_ge, e_eq, e_ne, e_eqs, e_eqb, e_ixt, e_ixs, e_ixr, e_ixo, e_ixR, at0, at1, at2, at3, at4, at5, at6, e_int, e_intT, e_intF, e_abs, e_min, e_max, e_lent, e_lens, e_lenr, e_leno, e_sumt, e_sumr, e_sumo, e_ftup, e_tupo, e_apnd, e_clr, e_clro, e_gix, e_gi1, e_gi2, e_gi0, e_giB, e_tru, e_trub, e_isi, e_isir, fin_nx, fin_rt, fin_ex, b_bind, b_st, b_nx, b_thn, b_thr, b_thb, b_thc, List.getElem?_cons_zero, List.getElem?_cons_succ, List.set_cons_zero, List.set_cons_succ, decide_true, decide_false, Bool.not_true, Bool.not_false, List.cons_append, List.nil_append, List.length_map, eq_self, Int.reduceLT, Int.reduceLE, and_self, and_true, true_and, e_comp, get_last, show decide ((s : Int) < (s : Int) + (0 : Nat)) = false from decide_eq_false (by omega), hpp, hap, ex]
        refine ⟨_, _, rfl, _, nb, _, _, rfl, hplain, hnb, ⟨w, get_ne hb hnb⟩, ?_, ol.set (by omega), get_ne hgg (by have := get_lt hg; omega), get_ne hmm (by have := get_lt hm1; omega)⟩
        rw [get_set hpp, hlist, hplain]; rfl
      · obtain ⟨q, rfl⟩ : ∃ q, i = q + 1 := ⟨i - 1, by omega⟩
        have aj := ok.atj (i := s + q) (by omega)
        have aw := ok.atw (i := s + q) (by omega)
        rw [show ((s + q : Nat) : Int) = (s : Int) + ((q + 1 : Nat) : Int) - 1 by omega] at aj aw
        simp only [Nat.add_sub_cancel] at hplain hb
        have a1 := own_add (alt := dAdd) (hp := hp2 ++ [glu (r.j (s + q)).w (r.j (s + q)).m (r.j (s + q)).l]) (get_app hb) get_last
        have bb : Bm r s q + (r.j (s + q)).m = Bm r s (q + 1) := by
          have : S (fun i => (r.j i).m) (s + (q + 1)) = S (fun i => (r.j i).m) (s + q) + (r.j (s + q)).m := rfl
          unfold Bm; rw [this]; omega
        have bl : Bl r s q + (r.j (s + q)).l = Bl r s (q + 1) := by
          have : S (fun i => (r.j i).l) (s + (q + 1)) = S (fun i => (r.j i).l) (s + q) + (r.j (s + q)).l := rfl
          unfold Bl; rw [this]; omega
        have bp : plain + r.w (s + q) + (r.j (s + q)).w = Pl r s k (q + 1) := by
          have e1 : S r.w (s + (q + 1)) = S r.w (s + q) + r.w (s + q) := rfl
          have e2 : S (fun i => (r.j i).w) (s + (q + 1)) = S (fun i => (r.j i).w) (s + q) + (r.j (s + q)).w := rfl
          rw [hplain]; unfold Pl; rw [e1, e2]; omega
        rw [bb, bl] at a1
        have pxx : Px hp2 ((hp2 ++ [glu (r.j (s + q)).w (r.j (s + q)).m (r.j (s + q)).l]) ++ [glu (w + (r.j (s + q)).w) (Bm r s (q + 1)) (Bl r s (q + 1))]) := (Px.app _ _).trans (Px.app _ _)
        have ex := extra_go (hp := (hp2 ++ [glu (r.j (s + q)).w (r.j (s + q)).m (r.j (s + q)).l]) ++ [glu (w + (r.j (s + q)).w) (Bm r s (q + 1)) (Bl r s (q + 1))]) (last := decide (e = r.ws.length)) (pxx.get hgg) get_last (pxx.get hmm) hBl hBm hL.2 hM.2 n1 n2
        have hpp2 := pxx.get hpp
        simp only [lp_box_places_1, lp_box_places_0, e_var, e_vget, e_c, e_op, e_op1, e_un, e_nil, e_cons, e_cons1, e_cons2, e_a0, e_ka0, e_app, e_app1, e_app2, e_tup, kT1, kT2, kT3, kT4, kT5, kT7, e_lst, kL0, kL1, kL2, kL3, kL4, kL5, e_test, e_ktest, e_and, e_andT, e_andF, e_or, e_orT, e_orF, e_not, e_knot, e_if, e_ifT, e_ifF, e_andv, e_andvT, e_andvF, e_orv, e_orvT, e_orvF, e_notv, e_knotv, e_ch, e_ch1, e_ch2, e_ch3T, e_ch3F, e_cb, e_call, e_make, e_fld, e_kfld, e_setf, e_setf1, e_setf2, e_seq, e_next, e_break, e_cont, e_expr, e_nx, e_ret, e_rt, e_retn, e_ifs, e_ifsT, e_ifsF, e_set, e_kset, e_asg, e_kasg, e_as2, e_gn, e_gtp, e_gto, e_gs0, e_gs1, e_for, e_rng1, e_rng2, e_srca, e_srcr, e_srco, e_srct, e_srcs, e_nop, e_part, e_kpart, e_sl, e_sl1, e_sl2, e_dslt, e_bm, e_kbm, e_bmo, e_add, e_sub, e_own1, e_mull, e_mulr, e_div, e_mod, e_neg, e_lt, e_gt, e_le, e_ge, e_eq, e_ne, e_eqs, e_eqb, e_ixt, e_ixs, e_ixr, e_ixo, e_ixR, at0, at1, at2, at3, at4, at5, at6, e_int, e_intT, e_intF, e_abs, e_min, e_max, e_lent, e_lens, e_lenr, e_leno, e_sumt, e_sumr, e_sumo, e_ftup, e_tupo, e_apnd, e_clr, e_clro, e_gix, e_gi1, e_gi2, e_gi0, e_giB, e_tru, e_trub, e_isi, e_isir, fin_nx, fin_rt, fin_ex, b_bind, b_st, b_nx, b_thn, b_thr, b_thb, b_thc, List.getElem?_cons_zero, List.getElem?_cons_succ, List.set_cons_zero, List.set_cons_succ, decide_true, decide_false, Bool.not_true, Bool.not_false, List.cons_append, List.nil_append, List.length_map, eq_self, Int.reduceLT, Int.reduceLE, and_self, and_true, true_and, e_comp, get_last, show decide ((s : Int) < (s : Int) + ((q + 1 : Nat) : Int)) = true from decide_eq_true (by omega), aj, aw, jg_go, fg1, a1, bp, hpp2, hap, ex]
        have hpl3 := get_lt hpp
        refine ⟨_, _, rfl, _, (hp2 ++ [glu (r.j (s + q)).w (r.j (s + q)).m (r.j (s + q)).l]).length, _, _, rfl, rfl, by simp; omega, ⟨_, get_ne get_last (by simp; omega)⟩, ?_, (ol.trans pxx.ol).set (by omega), get_ne (pxx.get hgg) (by have := get_lt hg; omega), get_ne (pxx.get hmm) (by have := get_lt hm1; omega)⟩
        rw [get_set hpp2, hlist]; rfl)
  rw [show ((e : Int) - s).toNat = e - s by omega] at hpp
  have hg0 := hg
  simp only [Row.D] at ef e1 ei
  simp only [m_box_places, e_var, e_vget, e_c, e_op, e_op1, e_un, e_nil, e_cons, e_cons1, e_cons2, e_a0, e_ka0, e_app, e_app1, e_app2, e_tup, kT1, kT2, kT3, kT4, kT5, kT7, e_lst, kL0, kL1, kL2, kL3, kL4, kL5, e_test, e_ktest, e_and, e_andT, e_andF, e_or, e_orT, e_orF, e_not, e_knot, e_if, e_ifT, e_ifF, e_andv, e_andvT, e_andvF, e_orv, e_orvT, e_orvF, e_notv, e_knotv, e_ch, e_ch1, e_ch2, e_ch3T, e_ch3F, e_cb, e_call, e_make, e_fld, e_kfld, e_setf, e_setf1, e_setf2, e_seq, e_next, e_break, e_cont, e_expr, e_nx, e_ret, e_rt, e_retn, e_ifs, e_ifsT, e_ifsF, e_set, e_kset, e_asg, e_kasg, e_as2, e_gn, e_gtp, e_gto, e_gs0, e_gs1, e_for, e_rng1, e_rng2, e_srca, e_srcr, e_srco, e_srct, e_srcs, e_nop, e_part, e_kpart, e_sl, e_sl1, e_sl2, e_dslt, e_bm, e_kbm, e_bmo, e_add, e_sub, e_own1, e_mull, e_mulr, e_div, e_mod, e_neg, e_lt, e_gt, e_le, e_ge, e_eq, e_ne, e_eqs, e_eqb, e_ixt, e_ixs, e_ixr, e_ixo, e_ixR, at0, at1, at2, at3, at4, at5, at6, e_int, e_intT, e_intF, e_abs, e_min, e_max, e_lent, e_lens, e_lenr, e_leno, e_sumt, e_sumr, e_sumo, e_ftup, e_tupo, e_apnd, e_clr, e_clro, e_gix, e_gi1, e_gi2, e_gi0, e_giB, e_tru, e_trub, e_isi, e_isir, fin_nx, fin_rt, fin_ex, b_bind, b_st, b_nx, b_thn, b_thr, b_thb, b_thc, List.getElem?_cons_zero, List.getElem?_cons_succ, List.set_cons_zero, List.set_cons_succ, decide_true, decide_false, Bool.not_true, Bool.not_false, List.cons_append, List.nil_append, List.length_map, eq_self, Int.reduceLT, Int.reduceLE, and_self, and_true, true_and, e_comp, get_last, Row.D, e1, er, hg, fg1, rest_eq, hd, ei, mkg, hpl, hr, ef]
  exact ⟨_, _, rfl, by have := px1.le; omega, ol, hpp⟩
def pD (p : Int × Int) : D := .tup [.int p.1, .int p.2]
def spn (P : Nat → Int) (r : Row) (s : Nat) : Nat → List (Int × Int)
  | 0 => []
  | i + 1 => spn P r s i ++ (match r.j (s + i) with | .gap _ _ _ => [(P i + r.w (s + i), P (i + 1))] | .hyp _ _ => [])
theorem spn_len {P : Nat → Int} {r : Row} {s : Nat} : ∀ {i : Nat}, (spn P r s i).length ≤ i
  | 0 => by simp [spn]
  | i + 1 => by
    have := spn_len (P := P) (r := r) (s := s) (i := i)
    simp only [spn, List.length_append]
    split <;> simp <;> omega
theorem spans_go {r : Row} (ok : r.OK) {hp : DH} {s e mm : Nat} {k : Key} (kk : k.OK) (h1 : s < e) (h2 : e ≤ r.ws.length) (ps : Poss r s e k) (hm : hp[mm]? = some (meas k)) :
    ∃ (n : Nat) (hp' : DH), run_gap_spans [r.D, .int (s : Int), .int (e : Int), .ref mm] hp = .ok (.ref n) hp' ∧ hp.length ≤ n ∧ Ol hp hp' ∧ hp'[n]? = some (.lst ((spn (plc r s e k) r s (e - 1 - s)).map pD)) := by
  have hmax := ok.max
  rw [ent_gap_spans]
  obtain ⟨n, hp1, e1, hn, ol1, hp1n⟩ := places_go ok (hp := hp) kk h1 h2 ps hm
  have hr := kRng2_ok (hp := hp1 ++ [.lst []]) (show -4611686018427387904 ≤ (s : Int) ∧ (s : Int) < 4611686018427387904 ∧ -4611686018427387904 ≤ (e : Int) - 1 ∧ (e : Int) - 1 < 4611686018427387904 by omega)
  have hlt := get_lt hp1n
  have atp : ∀ i : Nat, i < e - s → atI (((List.range (e - s)).map (plc r s e k)).map D.int) (i : Int) = some (.int (plc r s e k i)) := by
    intro i hi
    rw [at_map (d := 0) (by omega) (by simp; omega)]
    simp [hi]
  obtain ⟨env', hp', ef, x8, x9, rfl, hnn, hsp, ol⟩ := for_rng (j := 8) (b := lp_gap_spans_0) (lo := (s : Int)) (n := ((e : Int) - 1 - s).toNat) (hp := hp1 ++ [.lst []])
    (env := [some r.D, some (.int (s : Int)), some (.int (e : Int)), some (.ref mm), some (.tup (r.ws.map .int)), some (.tup (r.js.map Jt.D)), some (.ref n), some (.ref hp1.length), none, none])
    (fun i env' hp' => ∃ x8 x9, env' = [some r.D, some (.int (s : Int)), some (.int (e : Int)), some (.ref mm), some (.tup (r.ws.map .int)), some (.tup (r.js.map Jt.D)), some (.ref n), some (.ref hp1.length), x8, x9] ∧
      hp'[n]? = some (.lst (((List.range (e - s)).map (plc r s e k)).map D.int)) ∧ hp'[hp1.length]? = some (.lst ((spn (plc r s e k) r s i).map pD)) ∧ Ol hp hp')
    ⟨_, _, rfl, get_app hp1n, by rw [get_last]; rfl, ol1.trans (Px.app _ _).ol⟩ (by
      rintro i env hp2 hi ⟨x8, x9, rfl, hnn, hsp, ol⟩
      have aj := ok.atj (i := s + i) (by omega)
      have aw := ok.atw (i := s + i) (by omega)
      rw [Int.natCast_add] at aj aw
      have hol := ol1.1
      rcases hj : r.j (s + i) with ⟨w, m, l⟩ | ⟨m, b⟩
      · rw [hj] at aj
        have e0 := atp i (by omega)
        have e1 := atp (i + 1) (by omega)
        rw [Int.natCast_add, Int.natCast_one] at e1
        have hap : ∀ (v : Int × Int) (hp : DH), appO hp1.length (pD v) (some (.lst ((spn (plc r s e k) r s i).map pD))) hp = .ok .non (hp.set hp1.length (.lst ((spn (plc r s e k) r s i).map pD ++ [pD v]))) := fun v hp => e_appo (by have := spn_len (P := plc r s e k) (r := r) (s := s) (i := i); simp [sizeLine]; omega)
        have hap2 := hap (plc r s e k i + r.w (s + i), plc r s e k (i + 1))
        simp only [pD] at hap2
        simp only [lp_gap_spans_0, e_var, e_vget, e_c, e_op, e_op1, e_un, e_nil, e_cons, e_cons1, e_cons2, e_a0, e_ka0, e_app, e_app1, e_app2, e_tup, kT1, kT2, kT3, kT4, kT5, kT7, e_lst, kL0, kL1, kL2, kL3, kL4, kL5, e_test, e_ktest, e_and, e_andT, e_andF, e_or, e_orT, e_orF, e_not, e_knot, e_if, e_ifT, e_ifF, e_andv, e_andvT, e_andvF, e_orv, e_orvT, e_orvF, e_notv, e_knotv, e_ch, e_ch1, e_ch2, e_ch3T, e_ch3F, e_cb, e_call, e_make, e_fld, e_kfld, e_setf, e_setf1, e_setf2, e_seq, e_next, e_break, e_cont, e_expr, e_nx, e_ret, e_rt, e_retn, e_ifs, e_ifsT, e_ifsF, e_set, e_kset, e_asg, e_kasg, e_as2, e_gn, e_gtp, e_gto, e_gs0, e_gs1, e_for, e_rng1, e_rng2, e_srca, e_srcr, e_srco, e_srct, e_srcs, e_nop, e_part, e_kpart, e_sl, e_sl1, e_sl2, e_dslt, e_bm, e_kbm, e_bmo, e_add, e_sub, e_own1, e_mull, e_mulr, e_div, e_mod, e_neg, e_lt, e_gt, e_le, e_ge, e_eq, e_ne, e_eqs, e_eqb, e_ixt, e_ixs, e_ixr, e_ixo, e_ixR, at0, at1, at2, at3, at4, at5, at6, e_int, e_intT, e_intF, e_abs, e_min, e_max, e_lent, e_lens, e_lenr, e_leno, e_sumt, e_sumr, e_sumo, e_ftup, e_tupo, e_apnd, e_clr, e_clro, e_gix, e_gi1, e_gi2, e_gi0, e_giB, e_tru, e_trub, e_isi, e_isir, fin_nx, fin_rt, fin_ex, b_bind, b_st, b_nx, b_thn, b_thr, b_thb, b_thc, List.getElem?_cons_zero, List.getElem?_cons_succ, List.set_cons_zero, List.set_cons_succ, decide_true, decide_false, Bool.not_true, Bool.not_false, List.cons_append, List.nil_append, List.length_map, eq_self, Int.reduceLT, Int.reduceLE, and_self, and_true, true_and, e_comp, get_last, aj, Jt.D, s_gg, hnn, show (s : Int) + i - s = i by omega, e0, aw, hsp, e1, hap2]
        refine ⟨_, _, rfl, _, _, rfl, get_ne hnn (by omega), ?_, ol.set (by omega)⟩
        rw [get_set hsp]; simp [spn, hj, pD]
      · rw [hj] at aj
        simp only [lp_gap_spans_0, e_var, e_vget, e_c, e_op, e_op1, e_un, e_nil, e_cons, e_cons1, e_cons2, e_a0, e_ka0, e_app, e_app1, e_app2, e_tup, kT1, kT2, kT3, kT4, kT5, kT7, e_lst, kL0, kL1, kL2, kL3, kL4, kL5, e_test, e_ktest, e_and, e_andT, e_andF, e_or, e_orT, e_orF, e_not, e_knot, e_if, e_ifT, e_ifF, e_andv, e_andvT, e_andvF, e_orv, e_orvT, e_orvF, e_notv, e_knotv, e_ch, e_ch1, e_ch2, e_ch3T, e_ch3F, e_cb, e_call, e_make, e_fld, e_kfld, e_setf, e_setf1, e_setf2, e_seq, e_next, e_break, e_cont, e_expr, e_nx, e_ret, e_rt, e_retn, e_ifs, e_ifsT, e_ifsF, e_set, e_kset, e_asg, e_kasg, e_as2, e_gn, e_gtp, e_gto, e_gs0, e_gs1, e_for, e_rng1, e_rng2, e_srca, e_srcr, e_srco, e_srct, e_srcs, e_nop, e_part, e_kpart, e_sl, e_sl1, e_sl2, e_dslt, e_bm, e_kbm, e_bmo, e_add, e_sub, e_own1, e_mull, e_mulr, e_div, e_mod, e_neg, e_lt, e_gt, e_le, e_ge, e_eq, e_ne, e_eqs, e_eqb, e_ixt, e_ixs, e_ixr, e_ixo, e_ixR, at0, at1, at2, at3, at4, at5, at6, e_int, e_intT, e_intF, e_abs, e_min, e_max, e_lent, e_lens, e_lenr, e_leno, e_sumt, e_sumr, e_sumo, e_ftup, e_tupo, e_apnd, e_clr, e_clro, e_gix, e_gi1, e_gi2, e_gi0, e_giB, e_tru, e_trub, e_isi, e_isir, fin_nx, fin_rt, fin_ex, b_bind, b_st, b_nx, b_thn, b_thr, b_thb, b_thc, List.getElem?_cons_zero, List.getElem?_cons_succ, List.set_cons_zero, List.set_cons_succ, decide_true, decide_false, Bool.not_true, Bool.not_false, List.cons_append, List.nil_append, List.length_map, eq_self, Int.reduceLT, Int.reduceLE, and_self, and_true, true_and, e_comp, get_last, aj, Jt.D, s_hg]
        exact ⟨_, _, rfl, _, _, rfl, hnn, by rw [hsp]; simp [spn, hj], ol⟩)
  rw [show ((e : Int) - 1 - s).toNat = e - 1 - s by omega] at hsp
  simp only [Row.D] at ef e1
  simp only [m_gap_spans, e_var, e_vget, e_c, e_op, e_op1, e_un, e_nil, e_cons, e_cons1, e_cons2, e_a0, e_ka0, e_app, e_app1, e_app2, e_tup, kT1, kT2, kT3, kT4, kT5, kT7, e_lst, kL0, kL1, kL2, kL3, kL4, kL5, e_test, e_ktest, e_and, e_andT, e_andF, e_or, e_orT, e_orF, e_not, e_knot, e_if, e_ifT, e_ifF, e_andv, e_andvT, e_andvF, e_orv, e_orvT, e_orvF, e_notv, e_knotv, e_ch, e_ch1, e_ch2, e_ch3T, e_ch3F, e_cb, e_call, e_make, e_fld, e_kfld, e_setf, e_setf1, e_setf2, e_seq, e_next, e_break, e_cont, e_expr, e_nx, e_ret, e_rt, e_retn, e_ifs, e_ifsT, e_ifsF, e_set, e_kset, e_asg, e_kasg, e_as2, e_gn, e_gtp, e_gto, e_gs0, e_gs1, e_for, e_rng1, e_rng2, e_srca, e_srcr, e_srco, e_srct, e_srcs, e_nop, e_part, e_kpart, e_sl, e_sl1, e_sl2, e_dslt, e_bm, e_kbm, e_bmo, e_add, e_sub, e_own1, e_mull, e_mulr, e_div, e_mod, e_neg, e_lt, e_gt, e_le, e_ge, e_eq, e_ne, e_eqs, e_eqb, e_ixt, e_ixs, e_ixr, e_ixo, e_ixR, at0, at1, at2, at3, at4, at5, at6, e_int, e_intT, e_intF, e_abs, e_min, e_max, e_lent, e_lens, e_lenr, e_leno, e_sumt, e_sumr, e_sumo, e_ftup, e_tupo, e_apnd, e_clr, e_clro, e_gix, e_gi1, e_gi2, e_gi0, e_giB, e_tru, e_trub, e_isi, e_isir, fin_nx, fin_rt, fin_ex, b_bind, b_st, b_nx, b_thn, b_thr, b_thb, b_thc, List.getElem?_cons_zero, List.getElem?_cons_succ, List.set_cons_zero, List.set_cons_succ, decide_true, decide_false, Bool.not_true, Bool.not_false, List.cons_append, List.nil_append, List.length_map, eq_self, Int.reduceLT, Int.reduceLE, and_self, and_true, true_and, e_comp, get_last, Row.D, e1, hr, ef]
  exact ⟨_, _, rfl, ol1.1, ol, hsp⟩
end DL
/-! sameness -/
namespace DL
open PySem PySem.Spec PyProof.Rows L2
theorem ii_Bn {hp : DH}  : kIsi [("NoneType", false), ("bool", true), ("int", false), ("str", false), ("tuple", false), ("list", false)] [] .non hp = .ok (.bl false) hp := (rfl)
theorem ii_Bb {hp : DH} {b : Bool} : kIsi [("NoneType", false), ("bool", true), ("int", false), ("str", false), ("tuple", false), ("list", false)] [] (.bl b) hp = .ok (.bl true) hp := (rfl)
theorem ii_Bi {hp : DH} {i : Int} : kIsi [("NoneType", false), ("bool", true), ("int", false), ("str", false), ("tuple", false), ("list", false)] [] (.int i) hp = .ok (.bl false) hp := (rfl)
theorem ii_Bs {hp : DH} {z : Str} : kIsi [("NoneType", false), ("bool", true), ("int", false), ("str", false), ("tuple", false), ("list", false)] [] (.str z) hp = .ok (.bl false) hp := (rfl)
theorem ii_Bt {hp : DH} {xs : List D} : kIsi [("NoneType", false), ("bool", true), ("int", false), ("str", false), ("tuple", false), ("list", false)] [] (.tup xs) hp = .ok (.bl false) hp := (rfl)
theorem ii_Bl {hp : DH} {xs : List D} : isiO [("NoneType", false), ("bool", true), ("int", false), ("str", false), ("tuple", false), ("list", false)] [] (some (.lst xs)) hp = .ok (.bl false) hp := (rfl)
theorem ii_In {hp : DH}  : kIsi [("NoneType", false), ("bool", true), ("int", true), ("str", false), ("tuple", false), ("list", false)] [] .non hp = .ok (.bl false) hp := (rfl)
theorem ii_Ib {hp : DH} {b : Bool} : kIsi [("NoneType", false), ("bool", true), ("int", true), ("str", false), ("tuple", false), ("list", false)] [] (.bl b) hp = .ok (.bl true) hp := (rfl)
theorem ii_Ii {hp : DH} {i : Int} : kIsi [("NoneType", false), ("bool", true), ("int", true), ("str", false), ("tuple", false), ("list", false)] [] (.int i) hp = .ok (.bl true) hp := (rfl)
theorem ii_Is {hp : DH} {z : Str} : kIsi [("NoneType", false), ("bool", true), ("int", true), ("str", false), ("tuple", false), ("list", false)] [] (.str z) hp = .ok (.bl false) hp := (rfl)
theorem ii_It {hp : DH} {xs : List D} : kIsi [("NoneType", false), ("bool", true), ("int", true), ("str", false), ("tuple", false), ("list", false)] [] (.tup xs) hp = .ok (.bl false) hp := (rfl)
theorem ii_Il {hp : DH} {xs : List D} : isiO [("NoneType", false), ("bool", true), ("int", true), ("str", false), ("tuple", false), ("list", false)] [] (some (.lst xs)) hp = .ok (.bl false) hp := (rfl)
theorem ii_Sn {hp : DH}  : kIsi [("NoneType", false), ("bool", false), ("int", false), ("str", true), ("tuple", false), ("list", false)] [] .non hp = .ok (.bl false) hp := (rfl)
theorem ii_Sb {hp : DH} {b : Bool} : kIsi [("NoneType", false), ("bool", false), ("int", false), ("str", true), ("tuple", false), ("list", false)] [] (.bl b) hp = .ok (.bl false) hp := (rfl)
theorem ii_Si {hp : DH} {i : Int} : kIsi [("NoneType", false), ("bool", false), ("int", false), ("str", true), ("tuple", false), ("list", false)] [] (.int i) hp = .ok (.bl false) hp := (rfl)
theorem ii_Ss {hp : DH} {z : Str} : kIsi [("NoneType", false), ("bool", false), ("int", false), ("str", true), ("tuple", false), ("list", false)] [] (.str z) hp = .ok (.bl true) hp := (rfl)
theorem ii_St {hp : DH} {xs : List D} : kIsi [("NoneType", false), ("bool", false), ("int", false), ("str", true), ("tuple", false), ("list", false)] [] (.tup xs) hp = .ok (.bl false) hp := (rfl)
theorem ii_Sl {hp : DH} {xs : List D} : isiO [("NoneType", false), ("bool", false), ("int", false), ("str", true), ("tuple", false), ("list", false)] [] (some (.lst xs)) hp = .ok (.bl false) hp := (rfl)
theorem ii_Tn {hp : DH}  : kIsi [("NoneType", false), ("bool", false), ("int", false), ("str", false), ("tuple", true), ("list", false)] [] .non hp = .ok (.bl false) hp := (rfl)
theorem ii_Tb {hp : DH} {b : Bool} : kIsi [("NoneType", false), ("bool", false), ("int", false), ("str", false), ("tuple", true), ("list", false)] [] (.bl b) hp = .ok (.bl false) hp := (rfl)
theorem ii_Ti {hp : DH} {i : Int} : kIsi [("NoneType", false), ("bool", false), ("int", false), ("str", false), ("tuple", true), ("list", false)] [] (.int i) hp = .ok (.bl false) hp := (rfl)
theorem ii_Ts {hp : DH} {z : Str} : kIsi [("NoneType", false), ("bool", false), ("int", false), ("str", false), ("tuple", true), ("list", false)] [] (.str z) hp = .ok (.bl false) hp := (rfl)
theorem ii_Tt {hp : DH} {xs : List D} : kIsi [("NoneType", false), ("bool", false), ("int", false), ("str", false), ("tuple", true), ("list", false)] [] (.tup xs) hp = .ok (.bl true) hp := (rfl)
theorem ii_Tl {hp : DH} {xs : List D} : isiO [("NoneType", false), ("bool", false), ("int", false), ("str", false), ("tuple", true), ("list", false)] [] (some (.lst xs)) hp = .ok (.bl false) hp := (rfl)
theorem ii_Ln {hp : DH}  : kIsi [("NoneType", false), ("bool", false), ("int", false), ("str", false), ("tuple", false), ("list", true)] [] .non hp = .ok (.bl false) hp := (rfl)
theorem ii_Lb {hp : DH} {b : Bool} : kIsi [("NoneType", false), ("bool", false), ("int", false), ("str", false), ("tuple", false), ("list", true)] [] (.bl b) hp = .ok (.bl false) hp := (rfl)
theorem ii_Li {hp : DH} {i : Int} : kIsi [("NoneType", false), ("bool", false), ("int", false), ("str", false), ("tuple", false), ("list", true)] [] (.int i) hp = .ok (.bl false) hp := (rfl)
theorem ii_Ls {hp : DH} {z : Str} : kIsi [("NoneType", false), ("bool", false), ("int", false), ("str", false), ("tuple", false), ("list", true)] [] (.str z) hp = .ok (.bl false) hp := (rfl)
theorem ii_Lt {hp : DH} {xs : List D} : kIsi [("NoneType", false), ("bool", false), ("int", false), ("str", false), ("tuple", false), ("list", true)] [] (.tup xs) hp = .ok (.bl false) hp := (rfl)
theorem ii_Ll {hp : DH} {xs : List D} : isiO [("NoneType", false), ("bool", false), ("int", false), ("str", false), ("tuple", false), ("list", true)] [] (some (.lst xs)) hp = .ok (.bl true) hp := (rfl)
theorem isint_go {hp : DH} {i : Int} : run__law_is_integer [.int i] hp = .ok (.bl true) hp := by
  rw [ent__law_is_integer]
  simp only [m__law_is_integer, e_var, e_vget, e_c, e_op, e_op1, e_un, e_nil, e_cons, e_cons1, e_cons2, e_a0, e_ka0, e_app, e_app1, e_app2, e_tup, kT1, kT2, kT3, kT4, kT5, kT7, e_lst, kL0, kL1, kL2, kL3, kL4, kL5, e_test, e_ktest, e_and, e_andT, e_andF, e_or, e_orT, e_orF, e_not, e_knot, e_if, e_ifT, e_ifF, e_andv, e_andvT, e_andvF, e_orv, e_orvT, e_orvF, e_notv, e_knotv, e_ch, e_ch1, e_ch2, e_ch3T, e_ch3F, e_cb, e_call, e_make, e_fld, e_kfld, e_setf, e_setf1, e_setf2, e_seq, e_next, e_break, e_cont, e_expr, e_nx, e_ret, e_rt, e_retn, e_ifs, e_ifsT, e_ifsF, e_set, e_kset, e_asg, e_kasg, e_as2, e_gn, e_gtp, e_gto, e_gs0, e_gs1, e_for, e_rng1, e_rng2, e_srca, e_srcr, e_srco, e_srct, e_srcs, e_nop, e_part, e_kpart, e_sl, e_sl1, e_sl2, e_dslt, e_bm, e_kbm, e_bmo, e_add, e_sub, e_own1, e_mull, e_mulr, e_div, e_mod, e_neg, e_lt, e_gt, e_le, e_ge, e_eq, e_ne, e_eqs, e_eqb, e_ixt, e_ixs, e_ixr, e_ixo, e_ixR, at0, at1, at2, at3, at4, at5, at6, e_int, e_intT, e_intF, e_abs, e_min, e_max, e_lent, e_lens, e_lenr, e_leno, e_sumt, e_sumr, e_sumo, e_ftup, e_tupo, e_apnd, e_clr, e_clro, e_gix, e_gi1, e_gi2, e_gi0, e_giB, e_tru, e_trub, e_isi, e_isir, fin_nx, fin_rt, fin_ex, b_bind, b_st, b_nx, b_thn, b_thr, b_thb, b_thc, List.getElem?_cons_zero, List.getElem?_cons_succ, List.set_cons_zero, List.set_cons_succ, decide_true, decide_false, Bool.not_true, Bool.not_false, List.cons_append, List.nil_append, List.length_map, eq_self, Int.reduceLT, Int.reduceLE, and_self, and_true, true_and, e_comp, get_last, ii_Bn, ii_Bb, ii_Bi, ii_Bs, ii_Bt, ii_Bl, ii_In, ii_Ib, ii_Ii, ii_Is, ii_It, ii_Il, ii_Sn, ii_Sb, ii_Si, ii_Ss, ii_St, ii_Sl, ii_Tn, ii_Tb, ii_Ti, ii_Ts, ii_Tt, ii_Tl, ii_Ln, ii_Lb, ii_Li, ii_Ls, ii_Lt, ii_Ll]
end DL
/-! what the law asks of places and spans -/
namespace DL
open PySem PySem.Spec PyProof.Rows L2
/-! plain arithmetic -/
theorem fl_lo {a b L : Int} (hL : 0 < L) : (a / L) * L ≤ a ∧ a < (a / L + 1) * L := by
  have h1 := Int.ediv_mul_le a (Int.ne_of_gt hL)
  have h2 := Int.lt_ediv_add_one_mul_self a hL
  exact ⟨h1, h2⟩
theorem div_mono_add {r a d L : Int} (hL : 0 < L) (hr : 0 ≤ r) (hrL : r ≤ L) (hd : 0 ≤ d) : (r * (a + d)) / L ≤ (r * a) / L + d := by
  have h1 : r * (a + d) ≤ r * a + d * L := by
    have : r * d ≤ L * d := Int.mul_le_mul_of_nonneg_right hrL hd
    rw [Int.mul_add, Int.mul_comm d L]; omega
  have h2 := Int.ediv_le_ediv hL h1
  rw [Int.add_mul_ediv_right _ _ (Int.ne_of_gt hL)] at h2
  exact h2
theorem div_mono_up {r a d L : Int} (hL : 0 < L) (hr : 0 ≤ r) (hd : 0 ≤ d) : (r * a) / L ≤ (r * (a + d)) / L := by
  refine Int.ediv_le_ediv hL ?_
  have : 0 ≤ r * d := Int.mul_nonneg hr hd
  rw [Int.mul_add]; omega
theorem extra_up {both last : Bool} {rest M L m l dm dl : Int} (n1 : rest < 0 → both = true → -rest ≤ L) (n2 : 0 < rest → both = true → last = false → 0 < M) (hm : 0 ≤ dm) (hl : 0 ≤ dl) :
    -dl ≤ extra both last rest M L (m + dm) (l + dl) - extra both last rest M L m l := by
  unfold extra
  by_cases c1 : both = true ∧ rest < 0
  · rw [if_pos c1, if_pos c1]
    have h := n1 c1.2 c1.1
    have := div_mono_add (r := -rest) (a := l) (d := dl) (L := L) (by omega) (by omega) h hl
    omega
  · rw [if_neg c1, if_neg c1]
    by_cases c2 : both = true ∧ 0 < rest ∧ last = false
    · rw [if_pos c2, if_pos c2]
      have := div_mono_up (r := rest) (a := m) (d := dm) (n2 c2.2.1 c2.1 c2.2.2) (by omega) hm
      omega
    · rw [if_neg c2, if_neg c2]; omega
theorem extra_same {both last : Bool} {rest M L m l dm dl : Int} (hm : dm = 0) (hl : dl = 0) : extra both last rest M L (m + dm) (l + dl) = extra both last rest M L m l := by
  subst hm; subst hl; simp
section
variable {r : Row} {s e : Nat} {k : Key}
theorem Bm_s {i : Nat} : Bm r s (i + 1) = Bm r s i + (r.j (s + i)).m := by
  have : S (fun i => (r.j i).m) (s + (i + 1)) = S (fun i => (r.j i).m) (s + i) + (r.j (s + i)).m := rfl
  unfold Bm; rw [this]; omega
theorem Bl_s {i : Nat} : Bl r s (i + 1) = Bl r s i + (r.j (s + i)).l := by
  have : S (fun i => (r.j i).l) (s + (i + 1)) = S (fun i => (r.j i).l) (s + i) + (r.j (s + i)).l := rfl
  unfold Bl; rw [this]; omega
theorem Pl_s {i : Nat} : Pl r s k (i + 1) = Pl r s k i + r.w (s + i) + (r.j (s + i)).w := by
  have e1 : S r.w (s + (i + 1)) = S r.w (s + i) + r.w (s + i) := rfl
  have e2 : S (fun i => (r.j i).w) (s + (i + 1)) = S (fun i => (r.j i).w) (s + i) + (r.j (s + i)).w := rfl
  unfold Pl; rw [e1, e2]; omega
theorem plc_up (ok : r.OK) (kk : k.OK) (h1 : s < e) (h2 : e ≤ r.ws.length) (ps : Poss r s e k) {i : Nat} (hi : s + i + 1 < e) :
    plc r s e k i < plc r s e k (i + 1) ∧ (∀ w m l, r.j (s + i) = .gap w m l → plc r s e k i + r.w (s + i) + 1 ≤ plc r s e k (i + 1)) := by
  have hM := gM_b ok h1 h2
  have hj := ok.jp (s + i) (by omega)
  have hw := ok.wp (s + i) (by omega)
  have hm0 := hj.m0
  have hl0 := hj.l0
  have n2 : 0 < rest r s e k → k.both = true → decide (e = r.ws.length) = false → 0 < gM r s e := fun h hb hd => ps.M kk hM.1 h hb (by have := of_decide_eq_false hd; omega)
  unfold plc
  rw [Bm_s, Bl_s, Pl_s]
  have hx := extra_up (both := k.both) (last := decide (e = r.ws.length)) (rest := rest r s e k) (M := gM r s e) (L := gL r s e) (m := Bm r s i) (l := Bl r s i) (dm := (r.j (s + i)).m) (dl := (r.j (s + i)).l) (fun h _ => (ps.neg h).2) n2 hm0.1 hl0.1
  rcases hc : r.j (s + i) with ⟨w, m, l⟩ | ⟨m, b⟩
  · rw [hc] at hj hx
    obtain ⟨a1, a2, a3, a4, a5, a6⟩ := hj
    simp only [Jt.w, Jt.m, Jt.l] at hx ⊢
    exact ⟨by omega, fun _ _ _ _ => by omega⟩
  · rw [hc] at hj
    obtain ⟨a1, a2, a3, a4⟩ := hj
    rw [extra_same (dm := (Jt.hyp m b).m) (dl := (Jt.hyp m b).l) rfl rfl]
    simp only [Jt.w]
    exact ⟨by omega, fun _ _ _ h => by cases h⟩
theorem spn_ok (ok : r.OK) (kk : k.OK) (h1 : s < e) (h2 : e ≤ r.ws.length) (ps : Poss r s e k) : ∀ {i : Nat}, s + i < e → ∀ p ∈ spn (plc r s e k) r s i, 1 ≤ p.2 - p.1
  | 0, _, p, hp => by simp [spn] at hp
  | i + 1, hi, p, hp => by
    simp only [spn, List.mem_append] at hp
    rcases hp with hp | hp
    · exact spn_ok ok kk h1 h2 ps (i := i) (by omega) p hp
    · have hu := (plc_up ok kk h1 h2 ps (i := i) (by omega)).2
      rcases hc : r.j (s + i) with ⟨w, m, l⟩ | ⟨m, b⟩
      · rw [hc] at hp
        simp at hp
        subst hp
        have := hu w m l hc
        simp only; omega
      · rw [hc] at hp; simp at hp
/-! the check of the places -/
def bas (r : Row) (s e : Nat) (k : Key) : Int := if k.both = true ∧ (rest r s e k < 0 ∨ e < r.ws.length) then (if rest r s e k < 0 then gL r s e else gM r s e) else 0
def gon (r : Row) (s e : Nat) (k : Key) (i : Nat) : Int := if rest r s e k < 0 then Bl r s i else Bm r s i
def shr (r : Row) (s e : Nat) (k : Key) (i : Nat) : Int := if rest r s e k < 0 then -(plc r s e k i - Pl r s k i) else plc r s e k i - Pl r s k i
theorem shr_ok (ok : r.OK) (kk : k.OK) (h1 : s < e) (h2 : e ≤ r.ws.length) (ps : Poss r s e k) (i : Nat) :
    ((bas r s e k = 0 ∨ rest r s e k = 0) → shr r s e k i = 0) ∧ (¬ (bas r s e k = 0 ∨ rest r s e k = 0) → shr r s e k i * bas r s e k ≤ (if rest r s e k < 0 then -rest r s e k else rest r s e k) * gon r s e k i ∧ (if rest r s e k < 0 then -rest r s e k else rest r s e k) * gon r s e k i < (shr r s e k i + 1) * bas r s e k) := by
  have hM := gM_b ok h1 h2
  have e1 : plc r s e k i - Pl r s k i = extra k.both (decide (e = r.ws.length)) (rest r s e k) (gM r s e) (gL r s e) (Bm r s i) (Bl r s i) := by unfold plc; omega
  unfold shr gon bas
  rw [e1]
  by_cases hr : rest r s e k < 0
  · obtain ⟨hb, hl⟩ := ps.neg hr
    have hL : 0 < gL r s e := by omega
    have hx : extra k.both (decide (e = r.ws.length)) (rest r s e k) (gM r s e) (gL r s e) (Bm r s i) (Bl r s i) = -((-rest r s e k * Bl r s i) / gL r s e) := by unfold extra; rw [if_pos ⟨hb, hr⟩]
    rw [hx]
    simp only [hr, hb, if_true, true_or, and_self, Int.neg_neg]
    exact ⟨fun h => by omega, fun _ => fl_lo (b := 0) hL⟩
  · have hx : extra k.both (decide (e = r.ws.length)) (rest r s e k) (gM r s e) (gL r s e) (Bm r s i) (Bl r s i) = if k.both = true ∧ 0 < rest r s e k ∧ decide (e = r.ws.length) = false then (rest r s e k * Bm r s i) / gM r s e else 0 := by unfold extra; rw [if_neg (fun h => hr h.2)]
    rw [hx]
    simp only [hr, if_false, false_or]
    by_cases hc : k.both = true ∧ 0 < rest r s e k ∧ decide (e = r.ws.length) = false
    · obtain ⟨hb, hp, hd⟩ := hc
      have he : e < r.ws.length := by have := of_decide_eq_false hd; omega
      have hMp := ps.M kk hM.1 hp hb he
      simp only [hb, hp, hd, and_self, if_true, he]
      exact ⟨fun h => by omega, fun _ => fl_lo (b := 0) hMp⟩
    · rw [if_neg hc]
      refine ⟨fun _ => rfl, fun h => absurd ?_ h⟩
      by_cases hb : k.both = true ∧ e < r.ws.length
      · right
        have : ¬ 0 < rest r s e k := fun h => hc ⟨hb.1, h, decide_eq_false (by omega)⟩
        omega
      · left; rw [if_neg hb]
end
end DL
/-! while, comprehensions that allocate -/
namespace DL
open PySem PySem.Spec PyProof.Rows L2
theorem while_go {c : MG Bool} {b : MS} {Q : En → DH → Prop} (I : Nat → En → DH → Prop)
    (hs : ∀ v env hp, I v env hp → (c env hp = .ok false hp ∧ Q env hp) ∨ (c env hp = .ok true hp ∧ ∃ env' hp' v', b env hp = .nx env' hp' ∧ v' < v ∧ I v' env' hp')) :
    ∀ f v env hp, v < f → I v env hp → ∃ env' hp', mWhile c b f env hp = .nx env' hp' ∧ Q env' hp'
  | 0, v, env, hp, h, _ => absurd h (Nat.not_lt_zero _)
  | f + 1, v, env, hp, h, hi => by
    rcases hs v env hp hi with ⟨e, q⟩ | ⟨e, env', hp', v', e2, hv, hi'⟩
    · exact ⟨env, hp, by simp [mWhile, e], q⟩
    · obtain ⟨env2, hp2, e3, q⟩ := while_go I hs f v' env' hp' (by omega) hi'
      exact ⟨env2, hp2, by simp [mWhile, e, e2, e3], q⟩
theorem comp_lst {j a : Nat} {own : List Nat} {t : MG Bool} {e : ME} {ds : List D} {env : En} {hp : DH} (T : D → Bool) (F : D → D) (ha : hp[a]? = some (.lst ds))
    (ht : ∀ d ∈ ds, t ((wipeE env own).set j (some d)) hp = .ok (T d) hp) (he : ∀ d ∈ ds, T d = true → e ((wipeE env own).set j (some d)) hp = .ok (F d) hp) (hl : ds.length ≤ sizeLine) :
    kComp own (gN j) t e env (.lst a) hp = .ok (.ref hp.length) (hp ++ [.lst ((ds.filter T).map F)]) := by
  have hat : ∀ i, Src.at (.lst a) hp i = some ds[i]? := fun i => by unfold Src.at; simp only [ha]
  have hsz : Src.size (.lst a) hp = ds.length := by unfold Src.size; simp only [ha]
  unfold kComp
  rw [hsz, compGo_ds (src := .lst a) (ds := ds) T F hat ht he hl (ds.length + 1) 0 [] (by omega) (by omega) (by simp)]
  simp
theorem comp_rng {j n : Nat} {lo : Int} {own : List Nat} {t : MG Bool} {e : ME} {env : En} {hp : DH} (T : D → Bool) (F : D → D)
    (ht : ∀ i : Nat, i < n → t ((wipeE env own).set j (some (.int (lo + i)))) hp = .ok (T (.int (lo + i))) hp) (he : ∀ i : Nat, i < n → T (.int (lo + i)) = true → e ((wipeE env own).set j (some (.int (lo + i)))) hp = .ok (F (.int (lo + i))) hp) (hl : n ≤ sizeLine) :
    kComp own (gN j) t e env (.rng lo n) hp = .ok (.ref hp.length) (hp ++ [.lst ((((List.range n).map fun i => D.int (lo + (i : Nat))).filter T).map F)]) := by
  have hat : ∀ i : Nat, Src.at (.rng lo n) hp i = some ((List.range n).map fun i => D.int (lo + (i : Nat)))[i]? := fun i => by
    unfold Src.at
    by_cases h : i < n <;> simp [h]
  unfold kComp
  simp only [Src.size]
  have h := compGo_ds (j := j) (t := t) (e := e) (env := wipeE env own) (hp := hp) (src := .rng lo n) (ds := (List.range n).map fun i => D.int (lo + (i : Nat))) T F hat (by
      intro d hd
      obtain ⟨i, hi, rfl⟩ := List.mem_map.mp hd
      exact ht i (List.mem_range.mp hi)) (by
      intro d hd hT
      obtain ⟨i, hi, rfl⟩ := List.mem_map.mp hd
      exact he i (List.mem_range.mp hi) hT) (by simpa using hl) (n + 1) 0 [] (by simp) (by omega) (by simp)
  rw [h]
  simp
/-- a comprehension over a range, whose items change the heap; no condition -/
theorem compGo_rng {j n : Nat} {lo : Int} {e : ME} {env : En} (I : Nat → List D → DH → Prop) (hn : n ≤ sizeLine)
    (hs : ∀ (i : Nat) acc hp, i < n → acc.length = i → I i acc hp → ∃ y hp', e (env.set j (some (.int (lo + i)))) hp = .ok y hp' ∧ I (i + 1) (acc ++ [y]) hp') :
    ∀ f (i : Nat) acc hp, i + f = n + 1 → i ≤ n → acc.length = i → I i acc hp → ∃ acc' hp', compGo (.rng lo n) (gN j) mYes e f i acc env hp = .ok acc' hp' ∧ acc'.length = n ∧ I n acc' hp'
  | 0, i, acc, hp, h1, h2, h3, _ => by omega
  | f + 1, i, acc, hp, h1, h2, h3, hi => by
    unfold compGo
    by_cases h : i < n
    · have hat : Src.at (.rng lo n) hp i = some (some (.int (lo + (i : Int)))) := by simp [Src.at, h]
      obtain ⟨y, hp', e1, hi'⟩ := hs i acc hp h h3 hi
      obtain ⟨acc', hp2, e2, h4, h5⟩ := compGo_rng I hn hs f (i + 1) (acc ++ [y]) hp' (by omega) (by omega) (by simp [h3]) hi'
      refine ⟨acc', hp2, ?_, h4, h5⟩
      simp only [hat, gN, R.nx_ok, R.bind_ok, mYes, if_true, e1]
      rw [if_pos (by omega), e2]
    · have hat : Src.at (.rng lo n) hp i = some none := by simp [Src.at, h]
      obtain rfl : i = n := by omega
      exact ⟨acc, hp, by simp only [hat], h3, hi⟩
theorem comp_rngI {j n : Nat} {lo : Int} {own : List Nat} {e : ME} {env : En} {hp : DH} (I : Nat → List D → DH → Prop) (hn : n ≤ sizeLine) (h0 : I 0 [] hp)
    (hs : ∀ (i : Nat) acc hp, i < n → acc.length = i → I i acc hp → ∃ y hp', e ((wipeE env own).set j (some (.int (lo + i)))) hp = .ok y hp' ∧ I (i + 1) (acc ++ [y]) hp') :
    ∃ acc hp', kComp own (gN j) mYes e env (.rng lo n) hp = .ok (.ref hp'.length) (hp' ++ [.lst acc]) ∧ acc.length = n ∧ I n acc hp' := by
  obtain ⟨acc, hp', e1, h1, h2⟩ := compGo_rng (j := j) (e := e) (env := wipeE env own) (lo := lo) I hn hs (n + 1) 0 [] hp (by omega) (by omega) rfl h0
  refine ⟨acc, hp', ?_, h1, h2⟩
  unfold kComp
  simp only [Src.size, e1, R.bind_ok]
/-! spans that overlap -/
def ov (u l : Int × Int) : Bool := decide (max u.1 l.1 < min u.2 l.2)
def meets (U : List (Int × Int)) (l : Int × Int) : Bool := U.any fun u => ov u l
/-- ascending, none empty -/
def Asc (U : List (Int × Int)) : Prop := (∀ u ∈ U, u.1 < u.2) ∧ U.Pairwise fun a b => a.2 ≤ b.1
theorem Asc.get {U : List (Int × Int)} (h : Asc U) {i : Nat} (hi : i < U.length) : U[i].1 < U[i].2 := h.1 _ (List.getElem_mem hi)
theorem Asc.lt {U : List (Int × Int)} (h : Asc U) {i j : Nat} (hij : i < j) (hj : j < U.length) : (U[i]'(by omega)).2 ≤ U[j].1 := List.pairwise_iff_getElem.mp h.2 i j (by omega) hj hij
theorem meets_iff {U : List (Int × Int)} (hU : Asc U) {l : Int × Int} (hl : l.1 < l.2) {at_ : Nat} (ha : at_ ≤ U.length) (h1 : ∀ i (hi : i < U.length), i < at_ → U[i].2 ≤ l.1) (h2 : ∀ (h : at_ < U.length), l.1 < U[at_].2) :
    meets U l = (if h : at_ < U.length then decide (U[at_].1 < l.2) else false) := by
  by_cases h : at_ < U.length
  · rw [dif_pos h]
    by_cases hc : U[at_].1 < l.2
    · rw [decide_eq_true hc]
      have hg := hU.get h
      have h3 := h2 h
      unfold meets
      rw [List.any_eq_true]
      exact ⟨_, List.getElem_mem h, by unfold ov; exact decide_eq_true (by omega)⟩
    · rw [decide_eq_false hc]
      unfold meets
      rw [List.any_eq_false]
      intro u hu
      obtain ⟨i, hi, rfl⟩ := List.getElem_of_mem hu
      unfold ov
      have hg := hU.get hi
      by_cases hi2 : i < at_
      · have := h1 i hi hi2
        simp; omega
      · by_cases hi3 : i = at_
        · subst hi3; simp; omega
        · have := hU.lt (i := at_) (j := i) (by omega) hi
          have := hU.get h
          simp; omega
  · rw [dif_neg h]
    unfold meets
    rw [List.any_eq_false]
    intro u hu
    obtain ⟨i, hi, rfl⟩ := List.getElem_of_mem hu
    have hg := hU.get hi
    have := h1 i hi (by omega)
    unfold ov
    simp; omega
def cntM (U L : List (Int × Int)) : Nat → Int
  | 0 => 0
  | i + 1 => cntM U L i + (if meets U (L.getD i (0, 0)) = true then 1 else 0)
theorem cntM_b {U L : List (Int × Int)} : ∀ {n : Nat}, 0 ≤ cntM U L n ∧ cntM U L n ≤ n
  | 0 => by simp [cntM]
  | n + 1 => by
    have := cntM_b (U := U) (L := L) (n := n)
    simp only [cntM]
    split <;> omega
end DL
/-! counting what overlaps -/
namespace DL
open PySem PySem.Spec PyProof.Rows L2
theorem for_lstG {g : MT} {a : Nat} {b : MS} {ds : List D} {env : En} {hp : DH} (I : Nat → En → DH → Prop) (h0 : I 0 env hp) (ha : ∀ i env hp, I i env hp → hp[a]? = some (.lst ds))
    (hs : ∀ i d env hp, ds[i]? = some d → I i env hp → ∃ env1 hp1 env' hp', g d env hp = .ok env1 hp1 ∧ b env1 hp1 = .nx env' hp' ∧ I (i + 1) env' hp') :
    ∃ env' hp', kFor g b env (.lst a) hp = .nx env' hp' ∧ I ds.length env' hp' := by
  have : kFor g b env (.lst a) hp = forGo (.lst a) g b (ds.length + 1) 0 env hp := by unfold kFor Src.size; simp only [ha 0 env hp h0]
  rw [this]
  exact forGo_ds I (fun i env hp h => by unfold Src.at; simp only [ha i env hp h]) hs (ds.length + 1) 0 env hp (by omega) (by omega) h0
theorem at_pD {U : List (Int × Int)} {i : Nat} (h : i < U.length) : atI (U.map pD) (i : Int) = some (.tup [.int U[i].1, .int U[i].2]) := by
  rw [atN (by simpa using h)]
  simp [h, pD]
theorem cnt_go {U L : List (Int × Int)} {a b : Nat} {hp : DH} (hU : Asc U) (hL : Asc L) (lU : U.length ≤ 1000) (lL : L.length ≤ 1000) (ha : hp[a]? = some (.lst (U.map pD))) (hb : hp[b]? = some (.lst (L.map pD))) :
    run_count_overlapping [.ref a, .ref b] hp = .ok (.int (cntM U L L.length)) hp := by
  rw [ent_count_overlapping]
  obtain ⟨env', hp', ef, rfl, at_, x4, x5, rfl, _, _⟩ := for_lstG (g := gTp [4, 5]) (a := b) (b := lp_count_overlapping_1) (ds := L.map pD) (hp := hp) (env := [some (.ref a), some (.ref b), some (.int 0), some (.int 0), none, none])
    (fun i env' hp' => hp' = hp ∧ ∃ (at_ : Nat) (x4 x5 : Option D), env' = [some (.ref a), some (.ref b), some (.int (cntM U L i)), some (.int (at_ : Int)), x4, x5] ∧ at_ ≤ U.length ∧
      ∀ k (hk : k < L.length), i ≤ k → ∀ j (hj : j < U.length), j < at_ → U[j].2 ≤ L[k].1)
    ⟨rfl, 0, none, none, rfl, by omega, fun _ _ _ _ _ h => absurd h (by omega)⟩ (fun _ _ _ h => by rw [h.1]; exact hb) (by
      rintro i d env hp1 hd ⟨rfl, at0_, x4, x5, rfl, hat, hall⟩
      have hi : i < L.length := by have := (List.getElem?_eq_some_iff.mp hd).1; simpa using this
      have hdd : d = .tup [.int L[i].1, .int L[i].2] := by
        rw [List.getElem?_map, List.getElem?_eq_getElem hi] at hd
        simp [pD] at hd
        exact hd.symm
      subst hdd
      obtain ⟨env2, hp2, ew, rfl, at1_, rfl, hat1, hall1, hge⟩ := while_go (c := mAnd (mTest (mOp dLt (mVar 3) (mCB fLen (mCons (mVar 0) mNil)))) (mTest (mOp dLe (mOp dIx (mOp dIx (mVar 0) (mVar 3)) (mC (.int 1))) (mVar 4)))) (b := mSet 3 (mOp dAdd (mVar 3) (mC (.int 1))))
        (Q := fun env' hp' => hp' = hp1 ∧ ∃ at_ : Nat, env' = [some (.ref a), some (.ref b), some (.int (cntM U L i)), some (.int (at_ : Int)), some (.int L[i].1), some (.int L[i].2)] ∧ at_ ≤ U.length ∧ (∀ j (hj : j < U.length), j < at_ → U[j].2 ≤ L[i].1) ∧ ∀ (h : at_ < U.length), L[i].1 < U[at_].2)
        (fun v env' hp' => hp' = hp1 ∧ ∃ at_ : Nat, v = U.length - at_ ∧ env' = [some (.ref a), some (.ref b), some (.int (cntM U L i)), some (.int (at_ : Int)), some (.int L[i].1), some (.int L[i].2)] ∧ at_ ≤ U.length ∧ ∀ j (hj : j < U.length), j < at_ → U[j].2 ≤ L[i].1)
        (by
          rintro v env hp3 ⟨rfl, q, rfl, rfl, hq, hqa⟩
          by_cases h1 : q < U.length
          · have h1' : (q : Int) < (U.length : Int) := by omega
            have hx := at_pD h1
            by_cases h2 : U[q].2 ≤ L[i].1
            · right
              refine ⟨by simp only [e_var, e_vget, e_c, e_op, e_op1, e_un, e_nil, e_cons, e_cons1, e_cons2, e_a0, e_ka0, e_app, e_app1, e_app2, e_tup, kT1, kT2, kT3, kT4, kT5, kT7, e_lst, kL0, kL1, kL2, kL3, kL4, kL5, e_test, e_ktest, e_and, e_andT, e_andF, e_or, e_orT, e_orF, e_not, e_knot, e_if, e_ifT, e_ifF, e_andv, e_andvT, e_andvF, e_orv, e_orvT, e_orvF, e_notv, e_knotv, e_ch, e_ch1, e_ch2, e_ch3T, e_ch3F, e_cb, e_call, e_make, e_fld, e_kfld, e_setf, e_setf1, e_setf2, e_seq, e_next, e_break, e_cont, e_expr, e_nx, e_ret, e_rt, e_retn, e_ifs, e_ifsT, e_ifsF, e_set, e_kset, e_asg, e_kasg, e_as2, e_gn, e_gtp, e_gto, e_gs0, e_gs1, e_for, e_rng1, e_rng2, e_srca, e_srcr, e_srco, e_srct, e_srcs, e_nop, e_part, e_kpart, e_sl, e_sl1, e_sl2, e_dslt, e_bm, e_kbm, e_bmo, e_add, e_sub, e_own1, e_mull, e_mulr, e_div, e_mod, e_neg, e_lt, e_gt, e_le, e_ge, e_eq, e_ne, e_eqs, e_eqb, e_ixt, e_ixs, e_ixr, e_ixo, e_ixR, at0, at1, at2, at3, at4, at5, at6, e_int, e_intT, e_intF, e_abs, e_min, e_max, e_lent, e_lens, e_lenr, e_leno, e_sumt, e_sumr, e_sumo, e_ftup, e_tupo, e_apnd, e_clr, e_clro, e_gix, e_gi1, e_gi2, e_gi0, e_giB, e_tru, e_trub, e_isi, e_isir, fin_nx, fin_rt, fin_ex, b_bind, b_st, b_nx, b_thn, b_thr, b_thb, b_thc, List.getElem?_cons_zero, List.getElem?_cons_succ, List.set_cons_zero, List.set_cons_succ, decide_true, decide_false, Bool.not_true, Bool.not_false, List.cons_append, List.nil_append, List.length_map, eq_self, Int.reduceLT, Int.reduceLE, and_self, and_true, true_and, e_comp, get_last, ha, h1', hx, h2], _, _, U.length - (q + 1), by simp only [e_var, e_vget, e_c, e_op, e_op1, e_un, e_nil, e_cons, e_cons1, e_cons2, e_a0, e_ka0, e_app, e_app1, e_app2, e_tup, kT1, kT2, kT3, kT4, kT5, kT7, e_lst, kL0, kL1, kL2, kL3, kL4, kL5, e_test, e_ktest, e_and, e_andT, e_andF, e_or, e_orT, e_orF, e_not, e_knot, e_if, e_ifT, e_ifF, e_andv, e_andvT, e_andvF, e_orv, e_orvT, e_orvF, e_notv, e_knotv, e_ch, e_ch1, e_ch2, e_ch3T, e_ch3F, e_cb, e_call, e_make, e_fld, e_kfld, e_setf, e_setf1, e_setf2, e_seq, e_next, e_break, e_cont, e_expr, e_nx, e_ret, e_rt, e_retn, e_ifs, e_ifsT, e_ifsF, e_set, e_kset, e_asg, e_kasg, e_as2, e_gn, e_gtp, e_gto, e_gs0, e_gs1, e_for, e_rng1, e_rng2, e_srca, e_srcr, e_srco, e_srct, e_srcs, e_nop, e_part, e_kpart, e_sl, e_sl1, e_sl2, e_dslt, e_bm, e_kbm, e_bmo, e_add, e_sub, e_own1, e_mull, e_mulr, e_div, e_mod, e_neg, e_lt, e_gt, e_le, e_ge, e_eq, e_ne, e_eqs, e_eqb, e_ixt, e_ixs, e_ixr, e_ixo, e_ixR, at0, at1, at2, at3, at4, at5, at6, e_int, e_intT, e_intF, e_abs, e_min, e_max, e_lent, e_lens, e_lenr, e_leno, e_sumt, e_sumr, e_sumo, e_ftup, e_tupo, e_apnd, e_clr, e_clro, e_gix, e_gi1, e_gi2, e_gi0, e_giB, e_tru, e_trub, e_isi, e_isir, fin_nx, fin_rt, fin_ex, b_bind, b_st, b_nx, b_thn, b_thr, b_thb, b_thc, List.getElem?_cons_zero, List.getElem?_cons_succ, List.set_cons_zero, List.set_cons_succ, decide_true, decide_false, Bool.not_true, Bool.not_false, List.cons_append, List.nil_append, List.length_map, eq_self, Int.reduceLT, Int.reduceLE, and_self, and_true, true_and, e_comp, get_last]; rfl, by omega, rfl, q + 1, rfl, rfl, by omega, fun j hj hjq => ?_⟩
              by_cases e : j = q
              · subst e; exact h2
              · exact hqa j hj (by omega)
            · left
              exact ⟨by simp only [e_var, e_vget, e_c, e_op, e_op1, e_un, e_nil, e_cons, e_cons1, e_cons2, e_a0, e_ka0, e_app, e_app1, e_app2, e_tup, kT1, kT2, kT3, kT4, kT5, kT7, e_lst, kL0, kL1, kL2, kL3, kL4, kL5, e_test, e_ktest, e_and, e_andT, e_andF, e_or, e_orT, e_orF, e_not, e_knot, e_if, e_ifT, e_ifF, e_andv, e_andvT, e_andvF, e_orv, e_orvT, e_orvF, e_notv, e_knotv, e_ch, e_ch1, e_ch2, e_ch3T, e_ch3F, e_cb, e_call, e_make, e_fld, e_kfld, e_setf, e_setf1, e_setf2, e_seq, e_next, e_break, e_cont, e_expr, e_nx, e_ret, e_rt, e_retn, e_ifs, e_ifsT, e_ifsF, e_set, e_kset, e_asg, e_kasg, e_as2, e_gn, e_gtp, e_gto, e_gs0, e_gs1, e_for, e_rng1, e_rng2, e_srca, e_srcr, e_srco, e_srct, e_srcs, e_nop, e_part, e_kpart, e_sl, e_sl1, e_sl2, e_dslt, e_bm, e_kbm, e_bmo, e_add, e_sub, e_own1, e_mull, e_mulr, e_div, e_mod, e_neg, e_lt, e_gt, e_le, e_ge, e_eq, e_ne, e_eqs, e_eqb, e_ixt, e_ixs, e_ixr, e_ixo, e_ixR, at0, at1, at2, at3, at4, at5, at6, e_int, e_intT, e_intF, e_abs, e_min, e_max, e_lent, e_lens, e_lenr, e_leno, e_sumt, e_sumr, e_sumo, e_ftup, e_tupo, e_apnd, e_clr, e_clro, e_gix, e_gi1, e_gi2, e_gi0, e_giB, e_tru, e_trub, e_isi, e_isir, fin_nx, fin_rt, fin_ex, b_bind, b_st, b_nx, b_thn, b_thr, b_thb, b_thc, List.getElem?_cons_zero, List.getElem?_cons_succ, List.set_cons_zero, List.set_cons_succ, decide_true, decide_false, Bool.not_true, Bool.not_false, List.cons_append, List.nil_append, List.length_map, eq_self, Int.reduceLT, Int.reduceLE, and_self, and_true, true_and, e_comp, get_last, ha, h1', hx, h2], rfl, q, rfl, hq, hqa, fun _ => by omega⟩
          · left
            have h1' : ¬ (q : Int) < (U.length : Int) := by omega
            exact ⟨by simp only [e_var, e_vget, e_c, e_op, e_op1, e_un, e_nil, e_cons, e_cons1, e_cons2, e_a0, e_ka0, e_app, e_app1, e_app2, e_tup, kT1, kT2, kT3, kT4, kT5, kT7, e_lst, kL0, kL1, kL2, kL3, kL4, kL5, e_test, e_ktest, e_and, e_andT, e_andF, e_or, e_orT, e_orF, e_not, e_knot, e_if, e_ifT, e_ifF, e_andv, e_andvT, e_andvF, e_orv, e_orvT, e_orvF, e_notv, e_knotv, e_ch, e_ch1, e_ch2, e_ch3T, e_ch3F, e_cb, e_call, e_make, e_fld, e_kfld, e_setf, e_setf1, e_setf2, e_seq, e_next, e_break, e_cont, e_expr, e_nx, e_ret, e_rt, e_retn, e_ifs, e_ifsT, e_ifsF, e_set, e_kset, e_asg, e_kasg, e_as2, e_gn, e_gtp, e_gto, e_gs0, e_gs1, e_for, e_rng1, e_rng2, e_srca, e_srcr, e_srco, e_srct, e_srcs, e_nop, e_part, e_kpart, e_sl, e_sl1, e_sl2, e_dslt, e_bm, e_kbm, e_bmo, e_add, e_sub, e_own1, e_mull, e_mulr, e_div, e_mod, e_neg, e_lt, e_gt, e_le, e_ge, e_eq, e_ne, e_eqs, e_eqb, e_ixt, e_ixs, e_ixr, e_ixo, e_ixR, at0, at1, at2, at3, at4, at5, at6, e_int, e_intT, e_intF, e_abs, e_min, e_max, e_lent, e_lens, e_lenr, e_leno, e_sumt, e_sumr, e_sumo, e_ftup, e_tupo, e_apnd, e_clr, e_clro, e_gix, e_gi1, e_gi2, e_gi0, e_giB, e_tru, e_trub, e_isi, e_isir, fin_nx, fin_rt, fin_ex, b_bind, b_st, b_nx, b_thn, b_thr, b_thb, b_thc, List.getElem?_cons_zero, List.getElem?_cons_succ, List.set_cons_zero, List.set_cons_succ, decide_true, decide_false, Bool.not_true, Bool.not_false, List.cons_append, List.nil_append, List.length_map, eq_self, Int.reduceLT, Int.reduceLE, and_self, and_true, true_and, e_comp, get_last, ha, h1'], rfl, q, rfl, hq, hqa, fun h => absurd h h1⟩)
        1099511627776 (U.length - at0_) [some (.ref a), some (.ref b), some (.int (cntM U L i)), some (.int (at0_ : Int)), some (.int L[i].1), some (.int L[i].2)] hp1 (by omega) ⟨rfl, at0_, rfl, rfl, hat, fun j hj hja => hall i hi (Nat.le_refl _) j hj hja⟩
      have hm := meets_iff hU (hL.get hi) hat1 hall1 hge
      have hnext : ∀ k (hk : k < L.length), i + 1 ≤ k → ∀ j (hj : j < U.length), j < at1_ → U[j].2 ≤ L[k].1 := fun k hk hik j hj hja => by
        have h1 := hall1 j hj hja
        have h2 := hL.get hi
        have h3 := hL.lt (i := i) (j := k) (by omega) hk
        omega
      have hgd : L.getD i (0, 0) = L[i] := by simp [hi]
      refine ⟨[some (.ref a), some (.ref b), some (.int (cntM U L i)), some (.int (at0_ : Int)), some (.int L[i].1), some (.int L[i].2)], hp2, ?_⟩
      by_cases h1 : at1_ < U.length
      · have h1' : (at1_ : Int) < (U.length : Int) := by omega
        have hx := at_pD h1
        rw [dif_pos h1] at hm
        by_cases h2 : U[at1_].1 < L[i].2
        · rw [decide_eq_true h2] at hm
          refine ⟨_, _, by simp only [e_var, e_vget, e_c, e_op, e_op1, e_un, e_nil, e_cons, e_cons1, e_cons2, e_a0, e_ka0, e_app, e_app1, e_app2, e_tup, kT1, kT2, kT3, kT4, kT5, kT7, e_lst, kL0, kL1, kL2, kL3, kL4, kL5, e_test, e_ktest, e_and, e_andT, e_andF, e_or, e_orT, e_orF, e_not, e_knot, e_if, e_ifT, e_ifF, e_andv, e_andvT, e_andvF, e_orv, e_orvT, e_orvF, e_notv, e_knotv, e_ch, e_ch1, e_ch2, e_ch3T, e_ch3F, e_cb, e_call, e_make, e_fld, e_kfld, e_setf, e_setf1, e_setf2, e_seq, e_next, e_break, e_cont, e_expr, e_nx, e_ret, e_rt, e_retn, e_ifs, e_ifsT, e_ifsF, e_set, e_kset, e_asg, e_kasg, e_as2, e_gn, e_gtp, e_gto, e_gs0, e_gs1, e_for, e_rng1, e_rng2, e_srca, e_srcr, e_srco, e_srct, e_srcs, e_nop, e_part, e_kpart, e_sl, e_sl1, e_sl2, e_dslt, e_bm, e_kbm, e_bmo, e_add, e_sub, e_own1, e_mull, e_mulr, e_div, e_mod, e_neg, e_lt, e_gt, e_le, e_ge, e_eq, e_ne, e_eqs, e_eqb, e_ixt, e_ixs, e_ixr, e_ixo, e_ixR, at0, at1, at2, at3, at4, at5, at6, e_int, e_intT, e_intF, e_abs, e_min, e_max, e_lent, e_lens, e_lenr, e_leno, e_sumt, e_sumr, e_sumo, e_ftup, e_tupo, e_apnd, e_clr, e_clro, e_gix, e_gi1, e_gi2, e_gi0, e_giB, e_tru, e_trub, e_isi, e_isir, fin_nx, fin_rt, fin_ex, b_bind, b_st, b_nx, b_thn, b_thr, b_thb, b_thc, List.getElem?_cons_zero, List.getElem?_cons_succ, List.set_cons_zero, List.set_cons_succ, decide_true, decide_false, Bool.not_true, Bool.not_false, List.cons_append, List.nil_append, List.length_map, eq_self, Int.reduceLT, Int.reduceLE, and_self, and_true, true_and, e_comp, get_last], by simp only [lp_count_overlapping_1, lp_count_overlapping_0, e_var, e_vget, e_c, e_op, e_op1, e_un, e_nil, e_cons, e_cons1, e_cons2, e_a0, e_ka0, e_app, e_app1, e_app2, e_tup, kT1, kT2, kT3, kT4, kT5, kT7, e_lst, kL0, kL1, kL2, kL3, kL4, kL5, e_test, e_ktest, e_and, e_andT, e_andF, e_or, e_orT, e_orF, e_not, e_knot, e_if, e_ifT, e_ifF, e_andv, e_andvT, e_andvF, e_orv, e_orvT, e_orvF, e_notv, e_knotv, e_ch, e_ch1, e_ch2, e_ch3T, e_ch3F, e_cb, e_call, e_make, e_fld, e_kfld, e_setf, e_setf1, e_setf2, e_seq, e_next, e_break, e_cont, e_expr, e_nx, e_ret, e_rt, e_retn, e_ifs, e_ifsT, e_ifsF, e_set, e_kset, e_asg, e_kasg, e_as2, e_gn, e_gtp, e_gto, e_gs0, e_gs1, e_for, e_rng1, e_rng2, e_srca, e_srcr, e_srco, e_srct, e_srcs, e_nop, e_part, e_kpart, e_sl, e_sl1, e_sl2, e_dslt, e_bm, e_kbm, e_bmo, e_add, e_sub, e_own1, e_mull, e_mulr, e_div, e_mod, e_neg, e_lt, e_gt, e_le, e_ge, e_eq, e_ne, e_eqs, e_eqb, e_ixt, e_ixs, e_ixr, e_ixo, e_ixR, at0, at1, at2, at3, at4, at5, at6, e_int, e_intT, e_intF, e_abs, e_min, e_max, e_lent, e_lens, e_lenr, e_leno, e_sumt, e_sumr, e_sumo, e_ftup, e_tupo, e_apnd, e_clr, e_clro, e_gix, e_gi1, e_gi2, e_gi0, e_giB, e_tru, e_trub, e_isi, e_isir, fin_nx, fin_rt, fin_ex, b_bind, b_st, b_nx, b_thn, b_thr, b_thb, b_thc, List.getElem?_cons_zero, List.getElem?_cons_succ, List.set_cons_zero, List.set_cons_succ, decide_true, decide_false, Bool.not_true, Bool.not_false, List.cons_append, List.nil_append, List.length_map, eq_self, Int.reduceLT, Int.reduceLE, and_self, and_true, true_and, e_comp, get_last, ew, ha, h1', hx, h2]; rfl, rfl, at1_, some (.int L[i].1), some (.int L[i].2), ?_, hat1, hnext⟩
          simp only [cntM, hgd, hm, if_true]
        · rw [decide_eq_false h2] at hm
          refine ⟨_, _, by simp only [e_var, e_vget, e_c, e_op, e_op1, e_un, e_nil, e_cons, e_cons1, e_cons2, e_a0, e_ka0, e_app, e_app1, e_app2, e_tup, kT1, kT2, kT3, kT4, kT5, kT7, e_lst, kL0, kL1, kL2, kL3, kL4, kL5, e_test, e_ktest, e_and, e_andT, e_andF, e_or, e_orT, e_orF, e_not, e_knot, e_if, e_ifT, e_ifF, e_andv, e_andvT, e_andvF, e_orv, e_orvT, e_orvF, e_notv, e_knotv, e_ch, e_ch1, e_ch2, e_ch3T, e_ch3F, e_cb, e_call, e_make, e_fld, e_kfld, e_setf, e_setf1, e_setf2, e_seq, e_next, e_break, e_cont, e_expr, e_nx, e_ret, e_rt, e_retn, e_ifs, e_ifsT, e_ifsF, e_set, e_kset, e_asg, e_kasg, e_as2, e_gn, e_gtp, e_gto, e_gs0, e_gs1, e_for, e_rng1, e_rng2, e_srca, e_srcr, e_srco, e_srct, e_srcs, e_nop, e_part, e_kpart, e_sl, e_sl1, e_sl2, e_dslt, e_bm, e_kbm, e_bmo, e_add, e_sub, e_own1, e_mull, e_mulr, e_div, e_mod, e_neg, e_lt, e_gt, e_le, e_ge, e_eq, e_ne, e_eqs, e_eqb, e_ixt, e_ixs, e_ixr, e_ixo, e_ixR, at0, at1, at2, at3, at4, at5, at6, e_int, e_intT, e_intF, e_abs, e_min, e_max, e_lent, e_lens, e_lenr, e_leno, e_sumt, e_sumr, e_sumo, e_ftup, e_tupo, e_apnd, e_clr, e_clro, e_gix, e_gi1, e_gi2, e_gi0, e_giB, e_tru, e_trub, e_isi, e_isir, fin_nx, fin_rt, fin_ex, b_bind, b_st, b_nx, b_thn, b_thr, b_thb, b_thc, List.getElem?_cons_zero, List.getElem?_cons_succ, List.set_cons_zero, List.set_cons_succ, decide_true, decide_false, Bool.not_true, Bool.not_false, List.cons_append, List.nil_append, List.length_map, eq_self, Int.reduceLT, Int.reduceLE, and_self, and_true, true_and, e_comp, get_last], by simp only [lp_count_overlapping_1, lp_count_overlapping_0, e_var, e_vget, e_c, e_op, e_op1, e_un, e_nil, e_cons, e_cons1, e_cons2, e_a0, e_ka0, e_app, e_app1, e_app2, e_tup, kT1, kT2, kT3, kT4, kT5, kT7, e_lst, kL0, kL1, kL2, kL3, kL4, kL5, e_test, e_ktest, e_and, e_andT, e_andF, e_or, e_orT, e_orF, e_not, e_knot, e_if, e_ifT, e_ifF, e_andv, e_andvT, e_andvF, e_orv, e_orvT, e_orvF, e_notv, e_knotv, e_ch, e_ch1, e_ch2, e_ch3T, e_ch3F, e_cb, e_call, e_make, e_fld, e_kfld, e_setf, e_setf1, e_setf2, e_seq, e_next, e_break, e_cont, e_expr, e_nx, e_ret, e_rt, e_retn, e_ifs, e_ifsT, e_ifsF, e_set, e_kset, e_asg, e_kasg, e_as2, e_gn, e_gtp, e_gto, e_gs0, e_gs1, e_for, e_rng1, e_rng2, e_srca, e_srcr, e_srco, e_srct, e_srcs, e_nop, e_part, e_kpart, e_sl, e_sl1, e_sl2, e_dslt, e_bm, e_kbm, e_bmo, e_add, e_sub, e_own1, e_mull, e_mulr, e_div, e_mod, e_neg, e_lt, e_gt, e_le, e_ge, e_eq, e_ne, e_eqs, e_eqb, e_ixt, e_ixs, e_ixr, e_ixo, e_ixR, at0, at1, at2, at3, at4, at5, at6, e_int, e_intT, e_intF, e_abs, e_min, e_max, e_lent, e_lens, e_lenr, e_leno, e_sumt, e_sumr, e_sumo, e_ftup, e_tupo, e_apnd, e_clr, e_clro, e_gix, e_gi1, e_gi2, e_gi0, e_giB, e_tru, e_trub, e_isi, e_isir, fin_nx, fin_rt, fin_ex, b_bind, b_st, b_nx, b_thn, b_thr, b_thb, b_thc, List.getElem?_cons_zero, List.getElem?_cons_succ, List.set_cons_zero, List.set_cons_succ, decide_true, decide_false, Bool.not_true, Bool.not_false, List.cons_append, List.nil_append, List.length_map, eq_self, Int.reduceLT, Int.reduceLE, and_self, and_true, true_and, e_comp, get_last, ew, ha, h1', hx, h2]; rfl, rfl, at1_, some (.int L[i].1), some (.int L[i].2), ?_, hat1, hnext⟩
          simp only [cntM, hgd, hm, if_false, Bool.false_eq_true, Int.add_zero]
      · have h1' : ¬ (at1_ : Int) < (U.length : Int) := by omega
        rw [dif_neg h1] at hm
        refine ⟨_, _, by simp only [e_var, e_vget, e_c, e_op, e_op1, e_un, e_nil, e_cons, e_cons1, e_cons2, e_a0, e_ka0, e_app, e_app1, e_app2, e_tup, kT1, kT2, kT3, kT4, kT5, kT7, e_lst, kL0, kL1, kL2, kL3, kL4, kL5, e_test, e_ktest, e_and, e_andT, e_andF, e_or, e_orT, e_orF, e_not, e_knot, e_if, e_ifT, e_ifF, e_andv, e_andvT, e_andvF, e_orv, e_orvT, e_orvF, e_notv, e_knotv, e_ch, e_ch1, e_ch2, e_ch3T, e_ch3F, e_cb, e_call, e_make, e_fld, e_kfld, e_setf, e_setf1, e_setf2, e_seq, e_next, e_break, e_cont, e_expr, e_nx, e_ret, e_rt, e_retn, e_ifs, e_ifsT, e_ifsF, e_set, e_kset, e_asg, e_kasg, e_as2, e_gn, e_gtp, e_gto, e_gs0, e_gs1, e_for, e_rng1, e_rng2, e_srca, e_srcr, e_srco, e_srct, e_srcs, e_nop, e_part, e_kpart, e_sl, e_sl1, e_sl2, e_dslt, e_bm, e_kbm, e_bmo, e_add, e_sub, e_own1, e_mull, e_mulr, e_div, e_mod, e_neg, e_lt, e_gt, e_le, e_ge, e_eq, e_ne, e_eqs, e_eqb, e_ixt, e_ixs, e_ixr, e_ixo, e_ixR, at0, at1, at2, at3, at4, at5, at6, e_int, e_intT, e_intF, e_abs, e_min, e_max, e_lent, e_lens, e_lenr, e_leno, e_sumt, e_sumr, e_sumo, e_ftup, e_tupo, e_apnd, e_clr, e_clro, e_gix, e_gi1, e_gi2, e_gi0, e_giB, e_tru, e_trub, e_isi, e_isir, fin_nx, fin_rt, fin_ex, b_bind, b_st, b_nx, b_thn, b_thr, b_thb, b_thc, List.getElem?_cons_zero, List.getElem?_cons_succ, List.set_cons_zero, List.set_cons_succ, decide_true, decide_false, Bool.not_true, Bool.not_false, List.cons_append, List.nil_append, List.length_map, eq_self, Int.reduceLT, Int.reduceLE, and_self, and_true, true_and, e_comp, get_last], by simp only [lp_count_overlapping_1, lp_count_overlapping_0, e_var, e_vget, e_c, e_op, e_op1, e_un, e_nil, e_cons, e_cons1, e_cons2, e_a0, e_ka0, e_app, e_app1, e_app2, e_tup, kT1, kT2, kT3, kT4, kT5, kT7, e_lst, kL0, kL1, kL2, kL3, kL4, kL5, e_test, e_ktest, e_and, e_andT, e_andF, e_or, e_orT, e_orF, e_not, e_knot, e_if, e_ifT, e_ifF, e_andv, e_andvT, e_andvF, e_orv, e_orvT, e_orvF, e_notv, e_knotv, e_ch, e_ch1, e_ch2, e_ch3T, e_ch3F, e_cb, e_call, e_make, e_fld, e_kfld, e_setf, e_setf1, e_setf2, e_seq, e_next, e_break, e_cont, e_expr, e_nx, e_ret, e_rt, e_retn, e_ifs, e_ifsT, e_ifsF, e_set, e_kset, e_asg, e_kasg, e_as2, e_gn, e_gtp, e_gto, e_gs0, e_gs1, e_for, e_rng1, e_rng2, e_srca, e_srcr, e_srco, e_srct, e_srcs, e_nop, e_part, e_kpart, e_sl, e_sl1, e_sl2, e_dslt, e_bm, e_kbm, e_bmo, e_add, e_sub, e_own1, e_mull, e_mulr, e_div, e_mod, e_neg, e_lt, e_gt, e_le, e_ge, e_eq, e_ne, e_eqs, e_eqb, e_ixt, e_ixs, e_ixr, e_ixo, e_ixR, at0, at1, at2, at3, at4, at5, at6, e_int, e_intT, e_intF, e_abs, e_min, e_max, e_lent, e_lens, e_lenr, e_leno, e_sumt, e_sumr, e_sumo, e_ftup, e_tupo, e_apnd, e_clr, e_clro, e_gix, e_gi1, e_gi2, e_gi0, e_giB, e_tru, e_trub, e_isi, e_isir, fin_nx, fin_rt, fin_ex, b_bind, b_st, b_nx, b_thn, b_thr, b_thb, b_thc, List.getElem?_cons_zero, List.getElem?_cons_succ, List.set_cons_zero, List.set_cons_succ, decide_true, decide_false, Bool.not_true, Bool.not_false, List.cons_append, List.nil_append, List.length_map, eq_self, Int.reduceLT, Int.reduceLE, and_self, and_true, true_and, e_comp, get_last, ew, ha, h1']; rfl, rfl, at1_, some (.int L[i].1), some (.int L[i].2), ?_, hat1, hnext⟩
        simp only [cntM, hgd, hm, if_false, Bool.false_eq_true, Int.add_zero])
  simp only [List.length_map] at ef
  simp only [m_count_overlapping, e_var, e_vget, e_c, e_op, e_op1, e_un, e_nil, e_cons, e_cons1, e_cons2, e_a0, e_ka0, e_app, e_app1, e_app2, e_tup, kT1, kT2, kT3, kT4, kT5, kT7, e_lst, kL0, kL1, kL2, kL3, kL4, kL5, e_test, e_ktest, e_and, e_andT, e_andF, e_or, e_orT, e_orF, e_not, e_knot, e_if, e_ifT, e_ifF, e_andv, e_andvT, e_andvF, e_orv, e_orvT, e_orvF, e_notv, e_knotv, e_ch, e_ch1, e_ch2, e_ch3T, e_ch3F, e_cb, e_call, e_make, e_fld, e_kfld, e_setf, e_setf1, e_setf2, e_seq, e_next, e_break, e_cont, e_expr, e_nx, e_ret, e_rt, e_retn, e_ifs, e_ifsT, e_ifsF, e_set, e_kset, e_asg, e_kasg, e_as2, e_gn, e_gtp, e_gto, e_gs0, e_gs1, e_for, e_rng1, e_rng2, e_srca, e_srcr, e_srco, e_srct, e_srcs, e_nop, e_part, e_kpart, e_sl, e_sl1, e_sl2, e_dslt, e_bm, e_kbm, e_bmo, e_add, e_sub, e_own1, e_mull, e_mulr, e_div, e_mod, e_neg, e_lt, e_gt, e_le, e_ge, e_eq, e_ne, e_eqs, e_eqb, e_ixt, e_ixs, e_ixr, e_ixo, e_ixR, at0, at1, at2, at3, at4, at5, at6, e_int, e_intT, e_intF, e_abs, e_min, e_max, e_lent, e_lens, e_lenr, e_leno, e_sumt, e_sumr, e_sumo, e_ftup, e_tupo, e_apnd, e_clr, e_clro, e_gix, e_gi1, e_gi2, e_gi0, e_giB, e_tru, e_trub, e_isi, e_isir, fin_nx, fin_rt, fin_ex, b_bind, b_st, b_nx, b_thn, b_thr, b_thb, b_thc, List.getElem?_cons_zero, List.getElem?_cons_succ, List.set_cons_zero, List.set_cons_succ, decide_true, decide_false, Bool.not_true, Bool.not_false, List.cons_append, List.nil_append, List.length_map, eq_self, Int.reduceLT, Int.reduceLE, and_self, and_true, true_and, e_comp, get_last, hb, ef]
theorem ov_go {u l : Int × Int} {hp : DH} : run__law_overlap [pD u, pD l] hp = .ok (.bl (ov u l)) hp := by
  rw [ent__law_overlap]
  simp only [m__law_overlap, e_var, e_vget, e_c, e_op, e_op1, e_un, e_nil, e_cons, e_cons1, e_cons2, e_a0, e_ka0, e_app, e_app1, e_app2, e_tup, kT1, kT2, kT3, kT4, kT5, kT7, e_lst, kL0, kL1, kL2, kL3, kL4, kL5, e_test, e_ktest, e_and, e_andT, e_andF, e_or, e_orT, e_orF, e_not, e_knot, e_if, e_ifT, e_ifF, e_andv, e_andvT, e_andvF, e_orv, e_orvT, e_orvF, e_notv, e_knotv, e_ch, e_ch1, e_ch2, e_ch3T, e_ch3F, e_cb, e_call, e_make, e_fld, e_kfld, e_setf, e_setf1, e_setf2, e_seq, e_next, e_break, e_cont, e_expr, e_nx, e_ret, e_rt, e_retn, e_ifs, e_ifsT, e_ifsF, e_set, e_kset, e_asg, e_kasg, e_as2, e_gn, e_gtp, e_gto, e_gs0, e_gs1, e_for, e_rng1, e_rng2, e_srca, e_srcr, e_srco, e_srct, e_srcs, e_nop, e_part, e_kpart, e_sl, e_sl1, e_sl2, e_dslt, e_bm, e_kbm, e_bmo, e_add, e_sub, e_own1, e_mull, e_mulr, e_div, e_mod, e_neg, e_lt, e_gt, e_le, e_ge, e_eq, e_ne, e_eqs, e_eqb, e_ixt, e_ixs, e_ixr, e_ixo, e_ixR, at0, at1, at2, at3, at4, at5, at6, e_int, e_intT, e_intF, e_abs, e_min, e_max, e_lent, e_lens, e_lenr, e_leno, e_sumt, e_sumr, e_sumo, e_ftup, e_tupo, e_apnd, e_clr, e_clro, e_gix, e_gi1, e_gi2, e_gi0, e_giB, e_tru, e_trub, e_isi, e_isir, fin_nx, fin_rt, fin_ex, b_bind, b_st, b_nx, b_thn, b_thr, b_thb, b_thc, List.getElem?_cons_zero, List.getElem?_cons_succ, List.set_cons_zero, List.set_cons_succ, decide_true, decide_false, Bool.not_true, Bool.not_false, List.cons_append, List.nil_append, List.length_map, eq_self, Int.reduceLT, Int.reduceLE, and_self, and_true, true_and, e_comp, get_last, pD]
  rfl
def tOv (l : Int × Int) : D → Bool
  | .tup [.int x, .int y] => ov (x, y) l
  | _ => false
theorem tOv_len {U : List (Int × Int)} {l : Int × Int} : (0 : Int) < ((((U.map pD).filter (tOv l)).map fun d => d).length : Int) ↔ meets U l = true := by
  induction U with
  | nil => simp [meets]
  | cons u U ih =>
    simp only [meets, List.any_cons, List.map_cons, List.filter_cons, tOv, pD] at ih ⊢
    by_cases h : ov u l = true
    · simp [h] <;> omega
    · have h2 : ov u l = false := by simpa using h
      simp only [h2, Bool.false_or, Bool.false_eq_true, if_false]
      exact ih
theorem meet_go {U L : List (Int × Int)} {a b : Nat} {hp : DH} (lU : U.length ≤ 1000) (lL : L.length ≤ 1000) (ha : hp[a]? = some (.lst (U.map pD))) (hb : hp[b]? = some (.lst (L.map pD))) :
    ∃ hp', run__law_meet [.ref a, .ref b] hp = .ok (.int (cntM U L L.length)) hp' ∧ Px hp hp' := by
  rw [ent__law_meet]
  obtain ⟨env', hp', ef, px, x3, x4, x5, rfl⟩ := for_lst (j := 3) (a := b) (b := lp__law_meet_0) (ds := L.map pD) (hp := hp) (env := [some (.ref a), some (.ref b), some (.int 0), none, none, none])
    (fun i env' hp' => Px hp hp' ∧ ∃ (x3 x4 x5 : Option D), env' = [some (.ref a), some (.ref b), some (.int (cntM U L i)), x3, x4, x5])
    ⟨Px.refl _, none, none, none, rfl⟩ (fun _ _ _ h => h.1.get hb) (by
      rintro i d env hp1 hd ⟨px, x3, x4, x5, rfl⟩
      have hi : i < L.length := by have := (List.getElem?_eq_some_iff.mp hd).1; simpa using this
      have hdd : d = pD L[i] := by
        rw [List.getElem?_map, List.getElem?_eq_getElem hi] at hd
        simp at hd
        exact hd.symm
      subst hdd
      have hc := comp_lst (j := 5) (a := a) (own := [5]) (t := mTru (mCall run__law_overlap (mCons (mVar 5) (mCons (mVar 3) mNil)))) (e := mVar 5) (ds := U.map pD) (hp := hp1) (env := [some (.ref a), some (.ref b), some (.int (cntM U L i)), some (pD L[i]), x4, x5]) (tOv L[i]) (fun d => d) (px.get ha) (by
          intro d hd
          obtain ⟨u, _, rfl⟩ := List.mem_map.mp hd
          have := ov_go (u := u) (l := L[i]) (hp := hp1)
          simp only [wipeE, e_var, e_vget, e_c, e_op, e_op1, e_un, e_nil, e_cons, e_cons1, e_cons2, e_a0, e_ka0, e_app, e_app1, e_app2, e_tup, kT1, kT2, kT3, kT4, kT5, kT7, e_lst, kL0, kL1, kL2, kL3, kL4, kL5, e_test, e_ktest, e_and, e_andT, e_andF, e_or, e_orT, e_orF, e_not, e_knot, e_if, e_ifT, e_ifF, e_andv, e_andvT, e_andvF, e_orv, e_orvT, e_orvF, e_notv, e_knotv, e_ch, e_ch1, e_ch2, e_ch3T, e_ch3F, e_cb, e_call, e_make, e_fld, e_kfld, e_setf, e_setf1, e_setf2, e_seq, e_next, e_break, e_cont, e_expr, e_nx, e_ret, e_rt, e_retn, e_ifs, e_ifsT, e_ifsF, e_set, e_kset, e_asg, e_kasg, e_as2, e_gn, e_gtp, e_gto, e_gs0, e_gs1, e_for, e_rng1, e_rng2, e_srca, e_srcr, e_srco, e_srct, e_srcs, e_nop, e_part, e_kpart, e_sl, e_sl1, e_sl2, e_dslt, e_bm, e_kbm, e_bmo, e_add, e_sub, e_own1, e_mull, e_mulr, e_div, e_mod, e_neg, e_lt, e_gt, e_le, e_ge, e_eq, e_ne, e_eqs, e_eqb, e_ixt, e_ixs, e_ixr, e_ixo, e_ixR, at0, at1, at2, at3, at4, at5, at6, e_int, e_intT, e_intF, e_abs, e_min, e_max, e_lent, e_lens, e_lenr, e_leno, e_sumt, e_sumr, e_sumo, e_ftup, e_tupo, e_apnd, e_clr, e_clro, e_gix, e_gi1, e_gi2, e_gi0, e_giB, e_tru, e_trub, e_isi, e_isir, fin_nx, fin_rt, fin_ex, b_bind, b_st, b_nx, b_thn, b_thr, b_thb, b_thc, List.getElem?_cons_zero, List.getElem?_cons_succ, List.set_cons_zero, List.set_cons_succ, decide_true, decide_false, Bool.not_true, Bool.not_false, List.cons_append, List.nil_append, List.length_map, eq_self, Int.reduceLT, Int.reduceLE, and_self, and_true, true_and, e_comp, get_last, this, tOv, pD] at this ⊢
          ) (by
          intro d hd _
          simp only [wipeE, e_var, e_vget, e_c, e_op, e_op1, e_un, e_nil, e_cons, e_cons1, e_cons2, e_a0, e_ka0, e_app, e_app1, e_app2, e_tup, kT1, kT2, kT3, kT4, kT5, kT7, e_lst, kL0, kL1, kL2, kL3, kL4, kL5, e_test, e_ktest, e_and, e_andT, e_andF, e_or, e_orT, e_orF, e_not, e_knot, e_if, e_ifT, e_ifF, e_andv, e_andvT, e_andvF, e_orv, e_orvT, e_orvF, e_notv, e_knotv, e_ch, e_ch1, e_ch2, e_ch3T, e_ch3F, e_cb, e_call, e_make, e_fld, e_kfld, e_setf, e_setf1, e_setf2, e_seq, e_next, e_break, e_cont, e_expr, e_nx, e_ret, e_rt, e_retn, e_ifs, e_ifsT, e_ifsF, e_set, e_kset, e_asg, e_kasg, e_as2, e_gn, e_gtp, e_gto, e_gs0, e_gs1, e_for, e_rng1, e_rng2, e_srca, e_srcr, e_srco, e_srct, e_srcs, e_nop, e_part, e_kpart, e_sl, e_sl1, e_sl2, e_dslt, e_bm, e_kbm, e_bmo, e_add, e_sub, e_own1, e_mull, e_mulr, e_div, e_mod, e_neg, e_lt, e_gt, e_le, e_ge, e_eq, e_ne, e_eqs, e_eqb, e_ixt, e_ixs, e_ixr, e_ixo, e_ixR, at0, at1, at2, at3, at4, at5, at6, e_int, e_intT, e_intF, e_abs, e_min, e_max, e_lent, e_lens, e_lenr, e_leno, e_sumt, e_sumr, e_sumo, e_ftup, e_tupo, e_apnd, e_clr, e_clro, e_gix, e_gi1, e_gi2, e_gi0, e_giB, e_tru, e_trub, e_isi, e_isir, fin_nx, fin_rt, fin_ex, b_bind, b_st, b_nx, b_thn, b_thr, b_thb, b_thc, List.getElem?_cons_zero, List.getElem?_cons_succ, List.set_cons_zero, List.set_cons_succ, decide_true, decide_false, Bool.not_true, Bool.not_false, List.cons_append, List.nil_append, List.length_map, eq_self, Int.reduceLT, Int.reduceLE, and_self, and_true, true_and, e_comp, get_last]) (by simp [sizeLine]; omega)
      have hgd : L.getD i (0, 0) = L[i] := by simp [hi]
      have hpa := px.get ha
      by_cases hm : meets U L[i] = true
      · have hl := tOv_len.mpr hm
        simp only [List.length_map] at hl
        simp only [lp__law_meet_0, e_var, e_vget, e_c, e_op, e_op1, e_un, e_nil, e_cons, e_cons1, e_cons2, e_a0, e_ka0, e_app, e_app1, e_app2, e_tup, kT1, kT2, kT3, kT4, kT5, kT7, e_lst, kL0, kL1, kL2, kL3, kL4, kL5, e_test, e_ktest, e_and, e_andT, e_andF, e_or, e_orT, e_orF, e_not, e_knot, e_if, e_ifT, e_ifF, e_andv, e_andvT, e_andvF, e_orv, e_orvT, e_orvF, e_notv, e_knotv, e_ch, e_ch1, e_ch2, e_ch3T, e_ch3F, e_cb, e_call, e_make, e_fld, e_kfld, e_setf, e_setf1, e_setf2, e_seq, e_next, e_break, e_cont, e_expr, e_nx, e_ret, e_rt, e_retn, e_ifs, e_ifsT, e_ifsF, e_set, e_kset, e_asg, e_kasg, e_as2, e_gn, e_gtp, e_gto, e_gs0, e_gs1, e_for, e_rng1, e_rng2, e_srca, e_srcr, e_srco, e_srct, e_srcs, e_nop, e_part, e_kpart, e_sl, e_sl1, e_sl2, e_dslt, e_bm, e_kbm, e_bmo, e_add, e_sub, e_own1, e_mull, e_mulr, e_div, e_mod, e_neg, e_lt, e_gt, e_le, e_ge, e_eq, e_ne, e_eqs, e_eqb, e_ixt, e_ixs, e_ixr, e_ixo, e_ixR, at0, at1, at2, at3, at4, at5, at6, e_int, e_intT, e_intF, e_abs, e_min, e_max, e_lent, e_lens, e_lenr, e_leno, e_sumt, e_sumr, e_sumo, e_ftup, e_tupo, e_apnd, e_clr, e_clro, e_gix, e_gi1, e_gi2, e_gi0, e_giB, e_tru, e_trub, e_isi, e_isir, fin_nx, fin_rt, fin_ex, b_bind, b_st, b_nx, b_thn, b_thr, b_thb, b_thc, List.getElem?_cons_zero, List.getElem?_cons_succ, List.set_cons_zero, List.set_cons_succ, decide_true, decide_false, Bool.not_true, Bool.not_false, List.cons_append, List.nil_append, List.length_map, eq_self, Int.reduceLT, Int.reduceLE, and_self, and_true, true_and, e_comp, get_last, hpa, hc, hl]
        refine ⟨_, _, rfl, px.trans (Px.app _ _), some (pD L[i]), some (.ref hp1.length), x5, ?_⟩
        simp only [cntM, hgd, hm, if_true]
      · have hl := mt tOv_len.mp hm
        simp only [List.length_map] at hl
        simp only [lp__law_meet_0, e_var, e_vget, e_c, e_op, e_op1, e_un, e_nil, e_cons, e_cons1, e_cons2, e_a0, e_ka0, e_app, e_app1, e_app2, e_tup, kT1, kT2, kT3, kT4, kT5, kT7, e_lst, kL0, kL1, kL2, kL3, kL4, kL5, e_test, e_ktest, e_and, e_andT, e_andF, e_or, e_orT, e_orF, e_not, e_knot, e_if, e_ifT, e_ifF, e_andv, e_andvT, e_andvF, e_orv, e_orvT, e_orvF, e_notv, e_knotv, e_ch, e_ch1, e_ch2, e_ch3T, e_ch3F, e_cb, e_call, e_make, e_fld, e_kfld, e_setf, e_setf1, e_setf2, e_seq, e_next, e_break, e_cont, e_expr, e_nx, e_ret, e_rt, e_retn, e_ifs, e_ifsT, e_ifsF, e_set, e_kset, e_asg, e_kasg, e_as2, e_gn, e_gtp, e_gto, e_gs0, e_gs1, e_for, e_rng1, e_rng2, e_srca, e_srcr, e_srco, e_srct, e_srcs, e_nop, e_part, e_kpart, e_sl, e_sl1, e_sl2, e_dslt, e_bm, e_kbm, e_bmo, e_add, e_sub, e_own1, e_mull, e_mulr, e_div, e_mod, e_neg, e_lt, e_gt, e_le, e_ge, e_eq, e_ne, e_eqs, e_eqb, e_ixt, e_ixs, e_ixr, e_ixo, e_ixR, at0, at1, at2, at3, at4, at5, at6, e_int, e_intT, e_intF, e_abs, e_min, e_max, e_lent, e_lens, e_lenr, e_leno, e_sumt, e_sumr, e_sumo, e_ftup, e_tupo, e_apnd, e_clr, e_clro, e_gix, e_gi1, e_gi2, e_gi0, e_giB, e_tru, e_trub, e_isi, e_isir, fin_nx, fin_rt, fin_ex, b_bind, b_st, b_nx, b_thn, b_thr, b_thb, b_thc, List.getElem?_cons_zero, List.getElem?_cons_succ, List.set_cons_zero, List.set_cons_succ, decide_true, decide_false, Bool.not_true, Bool.not_false, List.cons_append, List.nil_append, List.length_map, eq_self, Int.reduceLT, Int.reduceLE, and_self, and_true, true_and, e_comp, get_last, hpa, hc, hl]
        refine ⟨_, _, rfl, px.trans (Px.app _ _), some (pD L[i]), some (.ref hp1.length), x5, ?_⟩
        simp only [cntM, hgd, hm, if_false, Bool.false_eq_true, Int.add_zero])
  simp only [List.length_map] at ef
  simp only [m__law_meet, e_var, e_vget, e_c, e_op, e_op1, e_un, e_nil, e_cons, e_cons1, e_cons2, e_a0, e_ka0, e_app, e_app1, e_app2, e_tup, kT1, kT2, kT3, kT4, kT5, kT7, e_lst, kL0, kL1, kL2, kL3, kL4, kL5, e_test, e_ktest, e_and, e_andT, e_andF, e_or, e_orT, e_orF, e_not, e_knot, e_if, e_ifT, e_ifF, e_andv, e_andvT, e_andvF, e_orv, e_orvT, e_orvF, e_notv, e_knotv, e_ch, e_ch1, e_ch2, e_ch3T, e_ch3F, e_cb, e_call, e_make, e_fld, e_kfld, e_setf, e_setf1, e_setf2, e_seq, e_next, e_break, e_cont, e_expr, e_nx, e_ret, e_rt, e_retn, e_ifs, e_ifsT, e_ifsF, e_set, e_kset, e_asg, e_kasg, e_as2, e_gn, e_gtp, e_gto, e_gs0, e_gs1, e_for, e_rng1, e_rng2, e_srca, e_srcr, e_srco, e_srct, e_srcs, e_nop, e_part, e_kpart, e_sl, e_sl1, e_sl2, e_dslt, e_bm, e_kbm, e_bmo, e_add, e_sub, e_own1, e_mull, e_mulr, e_div, e_mod, e_neg, e_lt, e_gt, e_le, e_ge, e_eq, e_ne, e_eqs, e_eqb, e_ixt, e_ixs, e_ixr, e_ixo, e_ixR, at0, at1, at2, at3, at4, at5, at6, e_int, e_intT, e_intF, e_abs, e_min, e_max, e_lent, e_lens, e_lenr, e_leno, e_sumt, e_sumr, e_sumo, e_ftup, e_tupo, e_apnd, e_clr, e_clro, e_gix, e_gi1, e_gi2, e_gi0, e_giB, e_tru, e_trub, e_isi, e_isir, fin_nx, fin_rt, fin_ex, b_bind, b_st, b_nx, b_thn, b_thr, b_thb, b_thc, List.getElem?_cons_zero, List.getElem?_cons_succ, List.set_cons_zero, List.set_cons_succ, decide_true, decide_false, Bool.not_true, Bool.not_false, List.cons_append, List.nil_append, List.length_map, eq_self, Int.reduceLT, Int.reduceLE, and_self, and_true, true_and, e_comp, get_last, hb, ef]
  exact ⟨_, rfl, px⟩
end DL
/-! the law's spans, the price of two lines -/
namespace DL
open PySem PySem.Spec PyProof.Rows L2
section
variable {r : Row} {s e n : Nat} {k : Key}
def rst (r : Row) (s e : Nat) (k : Key) : Int := if k.both = false ∨ (0 < rest r s e k ∧ e = r.ws.length) then 0 else rest r s e k
def exr (r : Row) (s e : Nat) (k : Key) (i : Nat) : Int := if 0 < rst r s e k then rst r s e k * Bm r s i / gM r s e else if rst r s e k < 0 then -((-rst r s e k * Bl r s i) / gL r s e) else 0
def gor (r : Row) (s e : Nat) (k : Key) (i : Nat) : Int := if 0 < rst r s e k then Bm r s i else if rst r s e k < 0 then Bl r s i else 0
theorem exr_eq (i : Nat) : extra k.both (decide (e = r.ws.length)) (rest r s e k) (gM r s e) (gL r s e) (Bm r s i) (Bl r s i) = exr r s e k i := by
  unfold extra exr
  rcases hb : k.both with _ | _
  · have : rst r s e k = 0 := by unfold rst; rw [if_pos (.inl hb)]
    simp [this]
  · by_cases hr : rest r s e k < 0
    · have : rst r s e k = rest r s e k := by
        unfold rst; rw [if_neg]
        rintro (h | h)
        · rw [hb] at h; cases h
        · omega
      rw [this, if_pos ⟨rfl, hr⟩, if_neg (by omega), if_pos hr]
    · rw [if_neg (fun h => hr h.2)]
      by_cases hc : 0 < rest r s e k ∧ e = r.ws.length
      · have : rst r s e k = 0 := by unfold rst; rw [if_pos (.inr hc)]
        rw [this, if_neg (by simp [hc.2])]; simp
      · have : rst r s e k = rest r s e k := by
          unfold rst; rw [if_neg]
          rintro (h | h)
          · rw [hb] at h; cases h
          · exact hc h
        rw [this]
        by_cases hp : 0 < rest r s e k
        · rw [if_pos ⟨rfl, hp, decide_eq_false (fun h => hc ⟨hp, h⟩)⟩, if_pos hp]
        · rw [if_neg (fun h => hp h.2.1), if_neg hp, if_neg hr]
theorem lspans_go (ok : r.OK) (kk : k.OK) (h1 : s < e) (h2 : e ≤ r.ws.length) (ps : Poss r s e k) {hp : DH} :
    ∃ (n a b : Nat) (hp' : DH), run__law_spans [r.D, .int (s : Int), .int (e : Int), k.D] hp = .ok (.ref n) hp' ∧ Ol hp hp' ∧ hp'[n]? = some (.lst [.ref a, .ref b]) ∧ hp'[b]? = some (.lst ((spn (plc r s e k) r s (e - 1 - s)).map pD)) := by
  have hmax := ok.max
  have hM := gM_b ok h1 h2
  have hL := gL_b ok h1 h2
  rw [ent__law_spans]
  have hr := fun hp => kRng2_ok (hp := hp) (show -4611686018427387904 ≤ (s : Int) ∧ (s : Int) < 4611686018427387904 ∧ -4611686018427387904 ≤ (e : Int) ∧ (e : Int) < 4611686018427387904 by omega)
  have n1 : rst r s e k < 0 → 0 < gL r s e := fun h => by
    unfold rst at h
    split at h
    · omega
    · have := (ps.neg h).2; omega
  have n2 : 0 < rst r s e k → 0 < gM r s e := fun h => by
    unfold rst at h
    split at h
    · omega
    · rename_i hc
      have hb : k.both = true := by rcases hb : k.both with _ | _; exact absurd (.inl hb) hc; rfl
      exact ps.M kk hM.1 h hb (by
        by_cases he : e = r.ws.length
        · exact absurd (.inr ⟨h, he⟩) hc
        · omega)
  generalize hG : DO.lst [D.int (gW r s e), .int (gM r s e), .int (gL r s e)] = G
  have tail : ∃ (n a b : Nat) (hp' : DH), fin (lp__law_spans_5 [some r.D, some (.int (s : Int)), some (.int (e : Int)), some k.D, some (.ref hp.length), some (.int (k.ind * (if (s : Int) = 0 then 1 else 0))), some (.int (rst r s e k)), none, none, none, none, none, none] (hp ++ [G])) = .ok (.ref n) hp' ∧ Ol hp hp' ∧ hp'[n]? = some (.lst [.ref a, .ref b]) ∧ hp'[b]? = some (.lst ((spn (plc r s e k) r s (e - 1 - s)).map pD)) := by
    generalize hpl : (hp ++ [G]).length = pl
    have hsp : ((hp ++ [G]) ++ [DO.lst []]).length = pl + 1 := by rw [List.length_append, hpl]; rfl
    have hpl0 : hp.length < pl := by rw [← hpl]; simp
    obtain ⟨env', hp', ef, plain, gone, ex, x11, x12, xs, rfl, hcur, hxs, hpp, hss, ol, hgg⟩ := for_rng (j := 11) (b := lp__law_spans_3) (lo := (s : Int)) (n := ((e : Int) - s).toNat) (hp := ((hp ++ [G]) ++ [.lst []]) ++ [.lst []])
      (env := [some r.D, some (.int (s : Int)), some (.int (e : Int)), some k.D, some (.ref hp.length), some (.int (k.ind * (if (s : Int) = 0 then 1 else 0))), some (.int (rst r s e k)), some (.ref pl), some (.ref (pl + 1)), some (.int 0), some (.int 0), none, none])
      (fun i env' hp' => ∃ (plain gone ex : Int) (x11 x12 : Option D) (xs : List D), env' = [some r.D, some (.int (s : Int)), some (.int (e : Int)), some k.D, some (.ref hp.length), some (.int plain), some (.int (rst r s e k)), some (.ref pl), some (.ref (pl + 1)), some (.int gone), some (.int ex), x11, x12] ∧
        (s + i < e → plain = Pl r s k i ∧ gone = gor r s e k i ∧ ex = exr r s e k i) ∧ xs.length = i ∧ hp'[pl]? = some (.lst xs) ∧ hp'[pl + 1]? = some (.lst ((spn (plc r s e k) r s (min i (e - 1 - s))).map pD)) ∧ Ol hp hp' ∧ hp'[hp.length]? = some G)
      ⟨_, _, _, none, none, [], rfl, fun _ => ⟨by unfold Pl ind0; split <;> simp, by unfold gor Bm Bl; simp, by unfold exr Bm Bl; simp⟩, rfl, by rw [get_app]; rw [← hpl]; exact get_last, by rw [← hsp, get_last]; simp [spn], ((Px.app _ _).trans ((Px.app _ _).trans (Px.app _ _))).ol, get_app (get_app get_last)⟩ (by
        rintro i env hp1 hi ⟨plain, gone, ex, x11, x12, xs, rfl, hcur, hxs, hpp, hss, ol, hgg⟩
        obtain ⟨rfl, rfl, rfl⟩ := hcur (by omega)
        have aw := ok.atw (i := s + i) (by omega)
        rw [Int.natCast_add] at aw
        have hol := ol.1
        have hap : ∀ (v : Int) (hp : DH), appO pl (.int v) (some (.lst xs)) hp = .ok .non (hp.set pl (.lst (xs ++ [.int v]))) := fun v hp => e_appo (by simp [hxs, sizeLine]; omega)
        generalize hX : hp1.set pl (DO.lst (xs ++ [.int (Pl r s k i + exr r s e k i)])) = hp2
        have hg1 : hp2[hp.length]? = some G := by rw [← hX]; exact get_ne hgg (by omega)
        have hs1 : hp2[pl + 1]? = some (.lst ((spn (plc r s e k) r s (min i (e - 1 - s))).map pD)) := by rw [← hX]; exact get_ne hss (by omega)
        have hpq : hp2[pl]? = some (DO.lst (xs ++ [.int (Pl r s k i + exr r s e k i)])) := by rw [← hX]; exact get_set hpp
        have ol2 : Ol hp hp2 := by rw [← hX]; exact ol.set (by omega)
        have hlen2 : (xs ++ [D.int (Pl r s k i + exr r s e k i)]).length = i + 1 := by simp [hxs]
        by_cases hl : s + i + 1 < e
        · have hd : (s : Int) + i < (e : Int) - 1 := by omega
          have aj := ok.atj (i := s + i) (by omega)
          rw [Int.natCast_add] at aj
          rw [show min i (e - 1 - s) = i by omega] at hs1
          have hmin : min (i + 1) (e - 1 - s) = i + 1 := by omega
          have hq0 : plc r s e k i = Pl r s k i + exr r s e k i := by unfold plc; rw [exr_eq]
          have hq1 : plc r s e k (i + 1) = Pl r s k (i + 1) + exr r s e k (i + 1) := by unfold plc; rw [exr_eq]
          have hBm := Bm_b ok (s := s) (i := i + 1) (by omega)
          have hBl := Bl_b ok (s := s) (i := i + 1) (by omega)
          rcases hj : r.j (s + i) with ⟨w, m, l⟩ | ⟨m, b⟩
          · rw [hj] at aj
            have hP : Pl r s k i + r.w (s + i) + w = Pl r s k (i + 1) := by rw [Pl_s, hj]; rfl
            have b1 : Bm r s (i + 1) = Bm r s i + m := by rw [Bm_s, hj]; rfl
            have b2 : Bl r s (i + 1) = Bl r s i + l := by rw [Bl_s, hj]; rfl
            have hap3 : ∀ hp, appO (pl + 1) (.tup [.int (Pl r s k i + r.w (s + i) + exr r s e k i), .int (Pl r s k (i + 1) + exr r s e k (i + 1))]) (some (.lst ((spn (plc r s e k) r s i).map pD))) hp = .ok .non (hp.set (pl + 1) (.lst ((spn (plc r s e k) r s (i + 1)).map pD))) := by
              intro hp
              rw [e_appo (by have := spn_len (P := plc r s e k) (r := r) (s := s) (i := i); simp [sizeLine]; omega)]
              have : Pl r s k i + exr r s e k i + r.w (s + i) = Pl r s k i + r.w (s + i) + exr r s e k i := by omega
              simp only [spn, hj, List.map_append, List.map_cons, List.map_nil, hq0, hq1, pD, this]
            have hgi : ∀ (x : Int) , gor r s e k (i + 1) = x → -18446744073709551616 < x ∧ x < 18446744073709551616 := fun x hx => by
              rw [← hx]; unfold gor; split
              · omega
              · split <;> omega
            have hfin : ∀ env' : En, env' = [some r.D, some (.int (s : Int)), some (.int (e : Int)), some k.D, some (.ref hp.length), some (.int (Pl r s k (i + 1))), some (.int (rst r s e k)), some (.ref pl), some (.ref (pl + 1)), some (.int (gor r s e k (i + 1))), some (.int (exr r s e k (i + 1))), some (.int ((s : Int) + i)), some (.int (Pl r s k i + r.w (s + i) + exr r s e k i))] →
                ∃ (plain gone ex : Int) (x11 x12 : Option D) (xs : List D), env' = [some r.D, some (.int (s : Int)), some (.int (e : Int)), some k.D, some (.ref hp.length), some (.int plain), some (.int (rst r s e k)), some (.ref pl), some (.ref (pl + 1)), some (.int gone), some (.int ex), x11, x12] ∧
                (s + (i + 1) < e → plain = Pl r s k (i + 1) ∧ gone = gor r s e k (i + 1) ∧ ex = exr r s e k (i + 1)) ∧ xs.length = i + 1 ∧ (hp2.set (pl + 1) (DO.lst ((spn (plc r s e k) r s (i + 1)).map pD)))[pl]? = some (.lst xs) ∧ (hp2.set (pl + 1) (DO.lst ((spn (plc r s e k) r s (i + 1)).map pD)))[pl + 1]? = some (.lst ((spn (plc r s e k) r s (min (i + 1) (e - 1 - s))).map pD)) ∧ Ol hp (hp2.set (pl + 1) (DO.lst ((spn (plc r s e k) r s (i + 1)).map pD))) ∧ (hp2.set (pl + 1) (DO.lst ((spn (plc r s e k) r s (i + 1)).map pD)))[hp.length]? = some G :=
              fun env' he => ⟨_, _, _, _, _, _, he, fun _ => ⟨rfl, rfl, rfl⟩, hlen2, get_ne hpq (by omega), by rw [hmin]; exact get_set hs1, ol2.set (by omega), get_ne hg1 (by omega)⟩
            have hg1' := hg1
            rw [← hG] at hg1'
            by_cases c1 : 0 < rst r s e k
            · have c2 : ¬ rst r s e k < 0 := by omega
              have g1 : gor r s e k i + m = gor r s e k (i + 1) := by unfold gor; rw [if_pos c1, if_pos c1, b1]
              have g2 : rst r s e k * gor r s e k (i + 1) / gM r s e = exr r s e k (i + 1) := by unfold gor exr; rw [if_pos c1, if_pos c1]
              have q : ∀ x hp, dMul (.int x) (.int (gor r s e k (i + 1))) hp = .ok (.int (x * gor r s e k (i + 1))) hp := fun x hp => e_mulr (hgi _ rfl)
              simp only [lp__law_spans_3, lp__law_spans_2, lp__law_spans_1, lp__law_spans_0, e_var, e_vget, e_c, e_op, e_op1, e_un, e_nil, e_cons, e_cons1, e_cons2, e_a0, e_ka0, e_app, e_app1, e_app2, e_tup, kT1, kT2, kT3, kT4, kT5, kT7, e_lst, kL0, kL1, kL2, kL3, kL4, kL5, e_test, e_ktest, e_and, e_andT, e_andF, e_or, e_orT, e_orF, e_not, e_knot, e_if, e_ifT, e_ifF, e_andv, e_andvT, e_andvF, e_orv, e_orvT, e_orvF, e_notv, e_knotv, e_ch, e_ch1, e_ch2, e_ch3T, e_ch3F, e_cb, e_call, e_make, e_fld, e_kfld, e_setf, e_setf1, e_setf2, e_seq, e_next, e_break, e_cont, e_expr, e_nx, e_ret, e_rt, e_retn, e_ifs, e_ifsT, e_ifsF, e_set, e_kset, e_asg, e_kasg, e_as2, e_gn, e_gtp, e_gto, e_gs0, e_gs1, e_for, e_rng1, e_rng2, e_srca, e_srcr, e_srco, e_srct, e_srcs, e_nop, e_part, e_kpart, e_sl, e_sl1, e_sl2, e_dslt, e_bm, e_kbm, e_bmo, e_add, e_sub, e_own1, e_mull, e_mulr, e_div, e_mod, e_neg, e_lt, e_gt, e_le, e_ge, e_eq, e_ne, e_eqs, e_eqb, e_ixt, e_ixs, e_ixr, e_ixo, e_ixR, at0, at1, at2, at3, at4, at5, at6, e_int, e_intT, e_intF, e_abs, e_min, e_max, e_lent, e_lens, e_lenr, e_leno, e_sumt, e_sumr, e_sumo, e_ftup, e_tupo, e_apnd, e_clr, e_clro, e_gix, e_gi1, e_gi2, e_gi0, e_giB, e_tru, e_trub, e_isi, e_isir, fin_nx, fin_rt, fin_ex, b_bind, b_st, b_nx, b_thn, b_thr, b_thb, b_thc, List.getElem?_cons_zero, List.getElem?_cons_succ, List.set_cons_zero, List.set_cons_succ, decide_true, decide_false, Bool.not_true, Bool.not_false, List.cons_append, List.nil_append, List.length_map, eq_self, Int.reduceLT, Int.reduceLE, and_self, and_true, true_and, e_comp, get_last, hpp, hap, hX, Row.D, aw, hd, aj, Jt.D, s_gg, s_gh, hP, c1, c2, g1, q, hg1', e_div (n2 c1) (by omega), g2, hs1, hap3]
              exact ⟨_, _, rfl, hfin _ rfl⟩
            · by_cases c2 : rst r s e k < 0
              · have g1 : gor r s e k i + l = gor r s e k (i + 1) := by unfold gor; rw [if_neg c1, if_neg c1, if_pos c2, if_pos c2, b2]
                have g2 : -(-rst r s e k * gor r s e k (i + 1) / gL r s e) = exr r s e k (i + 1) := by unfold gor exr; rw [if_neg c1, if_neg c1, if_pos c2, if_pos c2]
                have q : ∀ x hp, dMul (.int x) (.int (gor r s e k (i + 1))) hp = .ok (.int (x * gor r s e k (i + 1))) hp := fun x hp => e_mulr (hgi _ rfl)
                simp only [lp__law_spans_3, lp__law_spans_2, lp__law_spans_1, lp__law_spans_0, e_var, e_vget, e_c, e_op, e_op1, e_un, e_nil, e_cons, e_cons1, e_cons2, e_a0, e_ka0, e_app, e_app1, e_app2, e_tup, kT1, kT2, kT3, kT4, kT5, kT7, e_lst, kL0, kL1, kL2, kL3, kL4, kL5, e_test, e_ktest, e_and, e_andT, e_andF, e_or, e_orT, e_orF, e_not, e_knot, e_if, e_ifT, e_ifF, e_andv, e_andvT, e_andvF, e_orv, e_orvT, e_orvF, e_notv, e_knotv, e_ch, e_ch1, e_ch2, e_ch3T, e_ch3F, e_cb, e_call, e_make, e_fld, e_kfld, e_setf, e_setf1, e_setf2, e_seq, e_next, e_break, e_cont, e_expr, e_nx, e_ret, e_rt, e_retn, e_ifs, e_ifsT, e_ifsF, e_set, e_kset, e_asg, e_kasg, e_as2, e_gn, e_gtp, e_gto, e_gs0, e_gs1, e_for, e_rng1, e_rng2, e_srca, e_srcr, e_srco, e_srct, e_srcs, e_nop, e_part, e_kpart, e_sl, e_sl1, e_sl2, e_dslt, e_bm, e_kbm, e_bmo, e_add, e_sub, e_own1, e_mull, e_mulr, e_div, e_mod, e_neg, e_lt, e_gt, e_le, e_ge, e_eq, e_ne, e_eqs, e_eqb, e_ixt, e_ixs, e_ixr, e_ixo, e_ixR, at0, at1, at2, at3, at4, at5, at6, e_int, e_intT, e_intF, e_abs, e_min, e_max, e_lent, e_lens, e_lenr, e_leno, e_sumt, e_sumr, e_sumo, e_ftup, e_tupo, e_apnd, e_clr, e_clro, e_gix, e_gi1, e_gi2, e_gi0, e_giB, e_tru, e_trub, e_isi, e_isir, fin_nx, fin_rt, fin_ex, b_bind, b_st, b_nx, b_thn, b_thr, b_thb, b_thc, List.getElem?_cons_zero, List.getElem?_cons_succ, List.set_cons_zero, List.set_cons_succ, decide_true, decide_false, Bool.not_true, Bool.not_false, List.cons_append, List.nil_append, List.length_map, eq_self, Int.reduceLT, Int.reduceLE, and_self, and_true, true_and, e_comp, get_last, hpp, hap, hX, Row.D, aw, hd, aj, Jt.D, s_gg, s_gh, hP, c1, c2, g1, q, hg1', e_div (n1 c2) (by omega), g2, hs1, hap3]
                exact ⟨_, _, rfl, hfin _ rfl⟩
              · have g1 : gor r s e k i = gor r s e k (i + 1) := by unfold gor; rw [if_neg c1, if_neg c1, if_neg c2, if_neg c2]
                have g2 : exr r s e k i = exr r s e k (i + 1) := by unfold exr; rw [if_neg c1, if_neg c1, if_neg c2, if_neg c2]
                rw [← g2] at hap3
                simp only [lp__law_spans_3, lp__law_spans_2, lp__law_spans_1, lp__law_spans_0, e_var, e_vget, e_c, e_op, e_op1, e_un, e_nil, e_cons, e_cons1, e_cons2, e_a0, e_ka0, e_app, e_app1, e_app2, e_tup, kT1, kT2, kT3, kT4, kT5, kT7, e_lst, kL0, kL1, kL2, kL3, kL4, kL5, e_test, e_ktest, e_and, e_andT, e_andF, e_or, e_orT, e_orF, e_not, e_knot, e_if, e_ifT, e_ifF, e_andv, e_andvT, e_andvF, e_orv, e_orvT, e_orvF, e_notv, e_knotv, e_ch, e_ch1, e_ch2, e_ch3T, e_ch3F, e_cb, e_call, e_make, e_fld, e_kfld, e_setf, e_setf1, e_setf2, e_seq, e_next, e_break, e_cont, e_expr, e_nx, e_ret, e_rt, e_retn, e_ifs, e_ifsT, e_ifsF, e_set, e_kset, e_asg, e_kasg, e_as2, e_gn, e_gtp, e_gto, e_gs0, e_gs1, e_for, e_rng1, e_rng2, e_srca, e_srcr, e_srco, e_srct, e_srcs, e_nop, e_part, e_kpart, e_sl, e_sl1, e_sl2, e_dslt, e_bm, e_kbm, e_bmo, e_add, e_sub, e_own1, e_mull, e_mulr, e_div, e_mod, e_neg, e_lt, e_gt, e_le, e_ge, e_eq, e_ne, e_eqs, e_eqb, e_ixt, e_ixs, e_ixr, e_ixo, e_ixR, at0, at1, at2, at3, at4, at5, at6, e_int, e_intT, e_intF, e_abs, e_min, e_max, e_lent, e_lens, e_lenr, e_leno, e_sumt, e_sumr, e_sumo, e_ftup, e_tupo, e_apnd, e_clr, e_clro, e_gix, e_gi1, e_gi2, e_gi0, e_giB, e_tru, e_trub, e_isi, e_isir, fin_nx, fin_rt, fin_ex, b_bind, b_st, b_nx, b_thn, b_thr, b_thb, b_thc, List.getElem?_cons_zero, List.getElem?_cons_succ, List.set_cons_zero, List.set_cons_succ, decide_true, decide_false, Bool.not_true, Bool.not_false, List.cons_append, List.nil_append, List.length_map, eq_self, Int.reduceLT, Int.reduceLE, and_self, and_true, true_and, e_comp, get_last, hpp, hap, hX, Row.D, aw, hd, aj, Jt.D, s_gg, s_gh, hP, c1, c2, hs1, hap3]
                exact ⟨_, _, rfl, hfin _ (by rw [← g1, ← g2]; rfl)⟩
          · rw [hj] at aj
            have hP : Pl r s k i + r.w (s + i) - b = Pl r s k (i + 1) := by rw [Pl_s, hj]; simp only [Jt.w]; omega
            have b1 : Bm r s (i + 1) = Bm r s i := by rw [Bm_s, hj]; simp [Jt.m]
            have b2 : Bl r s (i + 1) = Bl r s i := by rw [Bl_s, hj]; simp [Jt.l]
            simp only [lp__law_spans_3, lp__law_spans_2, e_var, e_vget, e_c, e_op, e_op1, e_un, e_nil, e_cons, e_cons1, e_cons2, e_a0, e_ka0, e_app, e_app1, e_app2, e_tup, kT1, kT2, kT3, kT4, kT5, kT7, e_lst, kL0, kL1, kL2, kL3, kL4, kL5, e_test, e_ktest, e_and, e_andT, e_andF, e_or, e_orT, e_orF, e_not, e_knot, e_if, e_ifT, e_ifF, e_andv, e_andvT, e_andvF, e_orv, e_orvT, e_orvF, e_notv, e_knotv, e_ch, e_ch1, e_ch2, e_ch3T, e_ch3F, e_cb, e_call, e_make, e_fld, e_kfld, e_setf, e_setf1, e_setf2, e_seq, e_next, e_break, e_cont, e_expr, e_nx, e_ret, e_rt, e_retn, e_ifs, e_ifsT, e_ifsF, e_set, e_kset, e_asg, e_kasg, e_as2, e_gn, e_gtp, e_gto, e_gs0, e_gs1, e_for, e_rng1, e_rng2, e_srca, e_srcr, e_srco, e_srct, e_srcs, e_nop, e_part, e_kpart, e_sl, e_sl1, e_sl2, e_dslt, e_bm, e_kbm, e_bmo, e_add, e_sub, e_own1, e_mull, e_mulr, e_div, e_mod, e_neg, e_lt, e_gt, e_le, e_ge, e_eq, e_ne, e_eqs, e_eqb, e_ixt, e_ixs, e_ixr, e_ixo, e_ixR, at0, at1, at2, at3, at4, at5, at6, e_int, e_intT, e_intF, e_abs, e_min, e_max, e_lent, e_lens, e_lenr, e_leno, e_sumt, e_sumr, e_sumo, e_ftup, e_tupo, e_apnd, e_clr, e_clro, e_gix, e_gi1, e_gi2, e_gi0, e_giB, e_tru, e_trub, e_isi, e_isir, fin_nx, fin_rt, fin_ex, b_bind, b_st, b_nx, b_thn, b_thr, b_thb, b_thc, List.getElem?_cons_zero, List.getElem?_cons_succ, List.set_cons_zero, List.set_cons_succ, decide_true, decide_false, Bool.not_true, Bool.not_false, List.cons_append, List.nil_append, List.length_map, eq_self, Int.reduceLT, Int.reduceLE, and_self, and_true, true_and, e_comp, get_last, hpp, hap, hX, Row.D, aw, hd, aj, Jt.D, s_hg, s_hh, hP]
            exact ⟨_, _, rfl, _, _, _, _, _, _, rfl, fun _ => ⟨rfl, by unfold gor; rw [b1, b2], by unfold exr; rw [b1, b2]⟩, hlen2, hpq, by rw [hmin, hs1]; simp [spn, hj], ol2, hg1⟩
        · have hd : ¬ (s : Int) + i < (e : Int) - 1 := by omega
          simp only [lp__law_spans_3, lp__law_spans_2, e_var, e_vget, e_c, e_op, e_op1, e_un, e_nil, e_cons, e_cons1, e_cons2, e_a0, e_ka0, e_app, e_app1, e_app2, e_tup, kT1, kT2, kT3, kT4, kT5, kT7, e_lst, kL0, kL1, kL2, kL3, kL4, kL5, e_test, e_ktest, e_and, e_andT, e_andF, e_or, e_orT, e_orF, e_not, e_knot, e_if, e_ifT, e_ifF, e_andv, e_andvT, e_andvF, e_orv, e_orvT, e_orvF, e_notv, e_knotv, e_ch, e_ch1, e_ch2, e_ch3T, e_ch3F, e_cb, e_call, e_make, e_fld, e_kfld, e_setf, e_setf1, e_setf2, e_seq, e_next, e_break, e_cont, e_expr, e_nx, e_ret, e_rt, e_retn, e_ifs, e_ifsT, e_ifsF, e_set, e_kset, e_asg, e_kasg, e_as2, e_gn, e_gtp, e_gto, e_gs0, e_gs1, e_for, e_rng1, e_rng2, e_srca, e_srcr, e_srco, e_srct, e_srcs, e_nop, e_part, e_kpart, e_sl, e_sl1, e_sl2, e_dslt, e_bm, e_kbm, e_bmo, e_add, e_sub, e_own1, e_mull, e_mulr, e_div, e_mod, e_neg, e_lt, e_gt, e_le, e_ge, e_eq, e_ne, e_eqs, e_eqb, e_ixt, e_ixs, e_ixr, e_ixo, e_ixR, at0, at1, at2, at3, at4, at5, at6, e_int, e_intT, e_intF, e_abs, e_min, e_max, e_lent, e_lens, e_lenr, e_leno, e_sumt, e_sumr, e_sumo, e_ftup, e_tupo, e_apnd, e_clr, e_clro, e_gix, e_gi1, e_gi2, e_gi0, e_giB, e_tru, e_trub, e_isi, e_isir, fin_nx, fin_rt, fin_ex, b_bind, b_st, b_nx, b_thn, b_thr, b_thb, b_thc, List.getElem?_cons_zero, List.getElem?_cons_succ, List.set_cons_zero, List.set_cons_succ, decide_true, decide_false, Bool.not_true, Bool.not_false, List.cons_append, List.nil_append, List.length_map, eq_self, Int.reduceLT, Int.reduceLE, and_self, and_true, true_and, e_comp, get_last, hpp, hap, hX, Row.D, aw, hd]
          exact ⟨_, _, rfl, _, _, _, _, _, _, rfl, fun h => absurd h (by omega), hlen2, hpq, by rw [show min (i + 1) (e - 1 - s) = min i (e - 1 - s) by omega]; exact hs1, ol2, hg1⟩)
    rw [show min ((e : Int) - s).toNat (e - 1 - s) = e - 1 - s by omega] at hss
    simp only [Row.D] at ef
    simp only [lp__law_spans_5, lp__law_spans_4, e_var, e_vget, e_c, e_op, e_op1, e_un, e_nil, e_cons, e_cons1, e_cons2, e_a0, e_ka0, e_app, e_app1, e_app2, e_tup, kT1, kT2, kT3, kT4, kT5, kT7, e_lst, kL0, kL1, kL2, kL3, kL4, kL5, e_test, e_ktest, e_and, e_andT, e_andF, e_or, e_orT, e_orF, e_not, e_knot, e_if, e_ifT, e_ifF, e_andv, e_andvT, e_andvF, e_orv, e_orvT, e_orvF, e_notv, e_knotv, e_ch, e_ch1, e_ch2, e_ch3T, e_ch3F, e_cb, e_call, e_make, e_fld, e_kfld, e_setf, e_setf1, e_setf2, e_seq, e_next, e_break, e_cont, e_expr, e_nx, e_ret, e_rt, e_retn, e_ifs, e_ifsT, e_ifsF, e_set, e_kset, e_asg, e_kasg, e_as2, e_gn, e_gtp, e_gto, e_gs0, e_gs1, e_for, e_rng1, e_rng2, e_srca, e_srcr, e_srco, e_srct, e_srcs, e_nop, e_part, e_kpart, e_sl, e_sl1, e_sl2, e_dslt, e_bm, e_kbm, e_bmo, e_add, e_sub, e_own1, e_mull, e_mulr, e_div, e_mod, e_neg, e_lt, e_gt, e_le, e_ge, e_eq, e_ne, e_eqs, e_eqb, e_ixt, e_ixs, e_ixr, e_ixo, e_ixR, at0, at1, at2, at3, at4, at5, at6, e_int, e_intT, e_intF, e_abs, e_min, e_max, e_lent, e_lens, e_lenr, e_leno, e_sumt, e_sumr, e_sumo, e_ftup, e_tupo, e_apnd, e_clr, e_clro, e_gix, e_gi1, e_gi2, e_gi0, e_giB, e_tru, e_trub, e_isi, e_isir, fin_nx, fin_rt, fin_ex, b_bind, b_st, b_nx, b_thn, b_thr, b_thb, b_thc, List.getElem?_cons_zero, List.getElem?_cons_succ, List.set_cons_zero, List.set_cons_succ, decide_true, decide_false, Bool.not_true, Bool.not_false, List.cons_append, List.nil_append, List.length_map, eq_self, Int.reduceLT, Int.reduceLE, and_self, and_true, true_and, e_comp, get_last, hpl, hsp, hr, Row.D, ef]
    exact ⟨_, _, _, _, rfl, ol.trans (Px.app _ _).ol, get_last, get_app hss⟩
  rw [← hG] at tail
  simp only [Key.D, Row.D] at tail
  simp only [m__law_spans, e_var, e_vget, e_c, e_op, e_op1, e_un, e_nil, e_cons, e_cons1, e_cons2, e_a0, e_ka0, e_app, e_app1, e_app2, e_tup, kT1, kT2, kT3, kT4, kT5, kT7, e_lst, kL0, kL1, kL2, kL3, kL4, kL5, e_test, e_ktest, e_and, e_andT, e_andF, e_or, e_orT, e_orF, e_not, e_knot, e_if, e_ifT, e_ifF, e_andv, e_andvT, e_andvF, e_orv, e_orvT, e_orvF, e_notv, e_knotv, e_ch, e_ch1, e_ch2, e_ch3T, e_ch3F, e_cb, e_call, e_make, e_fld, e_kfld, e_setf, e_setf1, e_setf2, e_seq, e_next, e_break, e_cont, e_expr, e_nx, e_ret, e_rt, e_retn, e_ifs, e_ifsT, e_ifsF, e_set, e_kset, e_asg, e_kasg, e_as2, e_gn, e_gtp, e_gto, e_gs0, e_gs1, e_for, e_rng1, e_rng2, e_srca, e_srcr, e_srco, e_srct, e_srcs, e_nop, e_part, e_kpart, e_sl, e_sl1, e_sl2, e_dslt, e_bm, e_kbm, e_bmo, e_add, e_sub, e_own1, e_mull, e_mulr, e_div, e_mod, e_neg, e_lt, e_gt, e_le, e_ge, e_eq, e_ne, e_eqs, e_eqb, e_ixt, e_ixs, e_ixr, e_ixo, e_ixR, at0, at1, at2, at3, at4, at5, at6, e_int, e_intT, e_intF, e_abs, e_min, e_max, e_lent, e_lens, e_lenr, e_leno, e_sumt, e_sumr, e_sumo, e_ftup, e_tupo, e_apnd, e_clr, e_clro, e_gix, e_gi1, e_gi2, e_gi0, e_giB, e_tru, e_trub, e_isi, e_isir, fin_nx, fin_rt, fin_ex, b_bind, b_st, b_nx, b_thn, b_thr, b_thb, b_thc, List.getElem?_cons_zero, List.getElem?_cons_succ, List.set_cons_zero, List.set_cons_succ, decide_true, decide_false, Bool.not_true, Bool.not_false, List.cons_append, List.nil_append, List.length_map, eq_self, Int.reduceLT, Int.reduceLE, and_self, and_true, true_and, e_comp, get_last, glue_go ok h1 h2, e_i01, Key.D, ind_mul kk]
  rw [show k.wide - k.ind * (if (s : Int) = 0 then 1 else 0) - gW r s e = rest r s e k from rfl]
  simp only [e_var, e_vget, e_c, e_op, e_op1, e_un, e_nil, e_cons, e_cons1, e_cons2, e_a0, e_ka0, e_app, e_app1, e_app2, e_tup, kT1, kT2, kT3, kT4, kT5, kT7, e_lst, kL0, kL1, kL2, kL3, kL4, kL5, e_test, e_ktest, e_and, e_andT, e_andF, e_or, e_orT, e_orF, e_not, e_knot, e_if, e_ifT, e_ifF, e_andv, e_andvT, e_andvF, e_orv, e_orvT, e_orvF, e_notv, e_knotv, e_ch, e_ch1, e_ch2, e_ch3T, e_ch3F, e_cb, e_call, e_make, e_fld, e_kfld, e_setf, e_setf1, e_setf2, e_seq, e_next, e_break, e_cont, e_expr, e_nx, e_ret, e_rt, e_retn, e_ifs, e_ifsT, e_ifsF, e_set, e_kset, e_asg, e_kasg, e_as2, e_gn, e_gtp, e_gto, e_gs0, e_gs1, e_for, e_rng1, e_rng2, e_srca, e_srcr, e_srco, e_srct, e_srcs, e_nop, e_part, e_kpart, e_sl, e_sl1, e_sl2, e_dslt, e_bm, e_kbm, e_bmo, e_add, e_sub, e_own1, e_mull, e_mulr, e_div, e_mod, e_neg, e_lt, e_gt, e_le, e_ge, e_eq, e_ne, e_eqs, e_eqb, e_ixt, e_ixs, e_ixr, e_ixo, e_ixR, at0, at1, at2, at3, at4, at5, at6, e_int, e_intT, e_intF, e_abs, e_min, e_max, e_lent, e_lens, e_lenr, e_leno, e_sumt, e_sumr, e_sumo, e_ftup, e_tupo, e_apnd, e_clr, e_clro, e_gix, e_gi1, e_gi2, e_gi0, e_giB, e_tru, e_trub, e_isi, e_isir, fin_nx, fin_rt, fin_ex, b_bind, b_st, b_nx, b_thn, b_thr, b_thb, b_thc, List.getElem?_cons_zero, List.getElem?_cons_succ, List.set_cons_zero, List.set_cons_succ, decide_true, decide_false, Bool.not_true, Bool.not_false, List.cons_append, List.nil_append, List.length_map, eq_self, Int.reduceLT, Int.reduceLE, and_self, and_true, true_and, e_comp, get_last, Row.D, sL]
  rcases hb : k.both with _ | _
  · have h0 : rst r s e k = 0 := by unfold rst; rw [if_pos (.inl hb)]
    rw [h0, hb] at tail
    simp only [e_var, e_vget, e_c, e_op, e_op1, e_un, e_nil, e_cons, e_cons1, e_cons2, e_a0, e_ka0, e_app, e_app1, e_app2, e_tup, kT1, kT2, kT3, kT4, kT5, kT7, e_lst, kL0, kL1, kL2, kL3, kL4, kL5, e_test, e_ktest, e_and, e_andT, e_andF, e_or, e_orT, e_orF, e_not, e_knot, e_if, e_ifT, e_ifF, e_andv, e_andvT, e_andvF, e_orv, e_orvT, e_orvF, e_notv, e_knotv, e_ch, e_ch1, e_ch2, e_ch3T, e_ch3F, e_cb, e_call, e_make, e_fld, e_kfld, e_setf, e_setf1, e_setf2, e_seq, e_next, e_break, e_cont, e_expr, e_nx, e_ret, e_rt, e_retn, e_ifs, e_ifsT, e_ifsF, e_set, e_kset, e_asg, e_kasg, e_as2, e_gn, e_gtp, e_gto, e_gs0, e_gs1, e_for, e_rng1, e_rng2, e_srca, e_srcr, e_srco, e_srct, e_srcs, e_nop, e_part, e_kpart, e_sl, e_sl1, e_sl2, e_dslt, e_bm, e_kbm, e_bmo, e_add, e_sub, e_own1, e_mull, e_mulr, e_div, e_mod, e_neg, e_lt, e_gt, e_le, e_ge, e_eq, e_ne, e_eqs, e_eqb, e_ixt, e_ixs, e_ixr, e_ixo, e_ixR, at0, at1, at2, at3, at4, at5, at6, e_int, e_intT, e_intF, e_abs, e_min, e_max, e_lent, e_lens, e_lenr, e_leno, e_sumt, e_sumr, e_sumo, e_ftup, e_tupo, e_apnd, e_clr, e_clro, e_gix, e_gi1, e_gi2, e_gi0, e_giB, e_tru, e_trub, e_isi, e_isir, fin_nx, fin_rt, fin_ex, b_bind, b_st, b_nx, b_thn, b_thr, b_thb, b_thc, List.getElem?_cons_zero, List.getElem?_cons_succ, List.set_cons_zero, List.set_cons_succ, decide_true, decide_false, Bool.not_true, Bool.not_false, List.cons_append, List.nil_append, List.length_map, eq_self, Int.reduceLT, Int.reduceLE, and_self, and_true, true_and, e_comp, get_last]
    exact tail
  · rw [hb] at tail
    simp only [e_var, e_vget, e_c, e_op, e_op1, e_un, e_nil, e_cons, e_cons1, e_cons2, e_a0, e_ka0, e_app, e_app1, e_app2, e_tup, kT1, kT2, kT3, kT4, kT5, kT7, e_lst, kL0, kL1, kL2, kL3, kL4, kL5, e_test, e_ktest, e_and, e_andT, e_andF, e_or, e_orT, e_orF, e_not, e_knot, e_if, e_ifT, e_ifF, e_andv, e_andvT, e_andvF, e_orv, e_orvT, e_orvF, e_notv, e_knotv, e_ch, e_ch1, e_ch2, e_ch3T, e_ch3F, e_cb, e_call, e_make, e_fld, e_kfld, e_setf, e_setf1, e_setf2, e_seq, e_next, e_break, e_cont, e_expr, e_nx, e_ret, e_rt, e_retn, e_ifs, e_ifsT, e_ifsF, e_set, e_kset, e_asg, e_kasg, e_as2, e_gn, e_gtp, e_gto, e_gs0, e_gs1, e_for, e_rng1, e_rng2, e_srca, e_srcr, e_srco, e_srct, e_srcs, e_nop, e_part, e_kpart, e_sl, e_sl1, e_sl2, e_dslt, e_bm, e_kbm, e_bmo, e_add, e_sub, e_own1, e_mull, e_mulr, e_div, e_mod, e_neg, e_lt, e_gt, e_le, e_ge, e_eq, e_ne, e_eqs, e_eqb, e_ixt, e_ixs, e_ixr, e_ixo, e_ixR, at0, at1, at2, at3, at4, at5, at6, e_int, e_intT, e_intF, e_abs, e_min, e_max, e_lent, e_lens, e_lenr, e_leno, e_sumt, e_sumr, e_sumo, e_ftup, e_tupo, e_apnd, e_clr, e_clro, e_gix, e_gi1, e_gi2, e_gi0, e_giB, e_tru, e_trub, e_isi, e_isir, fin_nx, fin_rt, fin_ex, b_bind, b_st, b_nx, b_thn, b_thr, b_thb, b_thc, List.getElem?_cons_zero, List.getElem?_cons_succ, List.set_cons_zero, List.set_cons_succ, decide_true, decide_false, Bool.not_true, Bool.not_false, List.cons_append, List.nil_append, List.length_map, eq_self, Int.reduceLT, Int.reduceLE, and_self, and_true, true_and, e_comp, get_last]
    by_cases c1 : 0 < rest r s e k
    · by_cases c2 : (e : Int) = (r.ws.length : Int)
      · have h0 : rst r s e k = 0 := by unfold rst; rw [if_pos (.inr ⟨c1, by omega⟩)]
        rw [h0] at tail
        simp only [c1, c2, e_var, e_vget, e_c, e_op, e_op1, e_un, e_nil, e_cons, e_cons1, e_cons2, e_a0, e_ka0, e_app, e_app1, e_app2, e_tup, kT1, kT2, kT3, kT4, kT5, kT7, e_lst, kL0, kL1, kL2, kL3, kL4, kL5, e_test, e_ktest, e_and, e_andT, e_andF, e_or, e_orT, e_orF, e_not, e_knot, e_if, e_ifT, e_ifF, e_andv, e_andvT, e_andvF, e_orv, e_orvT, e_orvF, e_notv, e_knotv, e_ch, e_ch1, e_ch2, e_ch3T, e_ch3F, e_cb, e_call, e_make, e_fld, e_kfld, e_setf, e_setf1, e_setf2, e_seq, e_next, e_break, e_cont, e_expr, e_nx, e_ret, e_rt, e_retn, e_ifs, e_ifsT, e_ifsF, e_set, e_kset, e_asg, e_kasg, e_as2, e_gn, e_gtp, e_gto, e_gs0, e_gs1, e_for, e_rng1, e_rng2, e_srca, e_srcr, e_srco, e_srct, e_srcs, e_nop, e_part, e_kpart, e_sl, e_sl1, e_sl2, e_dslt, e_bm, e_kbm, e_bmo, e_add, e_sub, e_own1, e_mull, e_mulr, e_div, e_mod, e_neg, e_lt, e_gt, e_le, e_ge, e_eq, e_ne, e_eqs, e_eqb, e_ixt, e_ixs, e_ixr, e_ixo, e_ixR, at0, at1, at2, at3, at4, at5, at6, e_int, e_intT, e_intF, e_abs, e_min, e_max, e_lent, e_lens, e_lenr, e_leno, e_sumt, e_sumr, e_sumo, e_ftup, e_tupo, e_apnd, e_clr, e_clro, e_gix, e_gi1, e_gi2, e_gi0, e_giB, e_tru, e_trub, e_isi, e_isir, fin_nx, fin_rt, fin_ex, b_bind, b_st, b_nx, b_thn, b_thr, b_thb, b_thc, List.getElem?_cons_zero, List.getElem?_cons_succ, List.set_cons_zero, List.set_cons_succ, decide_true, decide_false, Bool.not_true, Bool.not_false, List.cons_append, List.nil_append, List.length_map, eq_self, Int.reduceLT, Int.reduceLE, and_self, and_true, true_and, e_comp, get_last] at tail ⊢
        exact tail
      · have h0 : rst r s e k = rest r s e k := by
          unfold rst; rw [if_neg]
          rintro (h | h)
          · rw [hb] at h; cases h
          · omega
        rw [h0] at tail
        simp only [c1, c2, e_var, e_vget, e_c, e_op, e_op1, e_un, e_nil, e_cons, e_cons1, e_cons2, e_a0, e_ka0, e_app, e_app1, e_app2, e_tup, kT1, kT2, kT3, kT4, kT5, kT7, e_lst, kL0, kL1, kL2, kL3, kL4, kL5, e_test, e_ktest, e_and, e_andT, e_andF, e_or, e_orT, e_orF, e_not, e_knot, e_if, e_ifT, e_ifF, e_andv, e_andvT, e_andvF, e_orv, e_orvT, e_orvF, e_notv, e_knotv, e_ch, e_ch1, e_ch2, e_ch3T, e_ch3F, e_cb, e_call, e_make, e_fld, e_kfld, e_setf, e_setf1, e_setf2, e_seq, e_next, e_break, e_cont, e_expr, e_nx, e_ret, e_rt, e_retn, e_ifs, e_ifsT, e_ifsF, e_set, e_kset, e_asg, e_kasg, e_as2, e_gn, e_gtp, e_gto, e_gs0, e_gs1, e_for, e_rng1, e_rng2, e_srca, e_srcr, e_srco, e_srct, e_srcs, e_nop, e_part, e_kpart, e_sl, e_sl1, e_sl2, e_dslt, e_bm, e_kbm, e_bmo, e_add, e_sub, e_own1, e_mull, e_mulr, e_div, e_mod, e_neg, e_lt, e_gt, e_le, e_ge, e_eq, e_ne, e_eqs, e_eqb, e_ixt, e_ixs, e_ixr, e_ixo, e_ixR, at0, at1, at2, at3, at4, at5, at6, e_int, e_intT, e_intF, e_abs, e_min, e_max, e_lent, e_lens, e_lenr, e_leno, e_sumt, e_sumr, e_sumo, e_ftup, e_tupo, e_apnd, e_clr, e_clro, e_gix, e_gi1, e_gi2, e_gi0, e_giB, e_tru, e_trub, e_isi, e_isir, fin_nx, fin_rt, fin_ex, b_bind, b_st, b_nx, b_thn, b_thr, b_thb, b_thc, List.getElem?_cons_zero, List.getElem?_cons_succ, List.set_cons_zero, List.set_cons_succ, decide_true, decide_false, Bool.not_true, Bool.not_false, List.cons_append, List.nil_append, List.length_map, eq_self, Int.reduceLT, Int.reduceLE, and_self, and_true, true_and, e_comp, get_last]
        exact tail
    · have h0 : rst r s e k = rest r s e k := by
        unfold rst; rw [if_neg]
        rintro (h | h)
        · rw [hb] at h; cases h
        · omega
      rw [h0] at tail
      simp only [c1, e_var, e_vget, e_c, e_op, e_op1, e_un, e_nil, e_cons, e_cons1, e_cons2, e_a0, e_ka0, e_app, e_app1, e_app2, e_tup, kT1, kT2, kT3, kT4, kT5, kT7, e_lst, kL0, kL1, kL2, kL3, kL4, kL5, e_test, e_ktest, e_and, e_andT, e_andF, e_or, e_orT, e_orF, e_not, e_knot, e_if, e_ifT, e_ifF, e_andv, e_andvT, e_andvF, e_orv, e_orvT, e_orvF, e_notv, e_knotv, e_ch, e_ch1, e_ch2, e_ch3T, e_ch3F, e_cb, e_call, e_make, e_fld, e_kfld, e_setf, e_setf1, e_setf2, e_seq, e_next, e_break, e_cont, e_expr, e_nx, e_ret, e_rt, e_retn, e_ifs, e_ifsT, e_ifsF, e_set, e_kset, e_asg, e_kasg, e_as2, e_gn, e_gtp, e_gto, e_gs0, e_gs1, e_for, e_rng1, e_rng2, e_srca, e_srcr, e_srco, e_srct, e_srcs, e_nop, e_part, e_kpart, e_sl, e_sl1, e_sl2, e_dslt, e_bm, e_kbm, e_bmo, e_add, e_sub, e_own1, e_mull, e_mulr, e_div, e_mod, e_neg, e_lt, e_gt, e_le, e_ge, e_eq, e_ne, e_eqs, e_eqb, e_ixt, e_ixs, e_ixr, e_ixo, e_ixR, at0, at1, at2, at3, at4, at5, at6, e_int, e_intT, e_intF, e_abs, e_min, e_max, e_lent, e_lens, e_lenr, e_leno, e_sumt, e_sumr, e_sumo, e_ftup, e_tupo, e_apnd, e_clr, e_clro, e_gix, e_gi1, e_gi2, e_gi0, e_giB, e_tru, e_trub, e_isi, e_isir, fin_nx, fin_rt, fin_ex, b_bind, b_st, b_nx, b_thn, b_thr, b_thb, b_thc, List.getElem?_cons_zero, List.getElem?_cons_succ, List.set_cons_zero, List.set_cons_succ, decide_true, decide_false, Bool.not_true, Bool.not_false, List.cons_append, List.nil_append, List.length_map, eq_self, Int.reduceLT, Int.reduceLE, and_self, and_true, true_and, e_comp, get_last]
      exact tail
end
end DL
/-! the price of two lines -/
namespace DL
open PySem PySem.Spec PyProof.Rows L2
theorem e_nes {i j : Str} {hp : DH} : dNe (.str i) (.str j) hp = .ok (.bl (!(i == j))) hp := (rfl)
theorem e_nn {hp : DH} : dNotN .non .non hp = .ok (.bl false) hp := (rfl)
theorem cut5 {a b c d e f g : D} : cutD [a, b, c, d, e, f, g] none (some 5) = [a, b, c, d, e] := rfl
theorem kA52 {a b c d e f g : D} {hp : DH} : dAdd (.tup [a, b, c, d, e]) (.tup [f, g]) hp = .ok (.tup [a, b, c, d, e, f, g]) hp := e_addt (by simp [sizeLine])
theorem kL12 {a b c d e f g h i j k l : D} {hp : DH} : kLst [a, b, c, d, e, f, g, h, i, j, k, l] hp = .ok (.ref hp.length) (hp ++ [.lst [a, b, c, d, e, f, g, h, i, j, k, l]]) := kLst_ok (by simp [sizeLine])
section
variable {r : Row} {s m e : Nat} {k : Key}
theorem spn_le (ok : r.OK) (kk : k.OK) (h1 : s < e) (h2 : e ≤ r.ws.length) (ps : Poss r s e k) : ∀ {i : Nat}, s + i < e → ∀ p ∈ spn (plc r s e k) r s i, p.2 ≤ plc r s e k i
  | 0, _, p, hp => by simp [spn] at hp
  | i + 1, hi, p, hp => by
    have hu := (plc_up ok kk h1 h2 ps (i := i) (by omega)).1
    simp only [spn, List.mem_append] at hp
    rcases hp with hp | hp
    · have := spn_le ok kk h1 h2 ps (i := i) (by omega) p hp
      omega
    · rcases hc : r.j (s + i) with ⟨w, m, l⟩ | ⟨m, b⟩
      · rw [hc] at hp
        simp at hp
        subst hp
        exact Int.le_refl _
      · rw [hc] at hp; simp at hp
theorem spn_pw (ok : r.OK) (kk : k.OK) (h1 : s < e) (h2 : e ≤ r.ws.length) (ps : Poss r s e k) : ∀ {i : Nat}, s + i < e → (spn (plc r s e k) r s i).Pairwise fun a b => a.2 ≤ b.1
  | 0, _ => by simp [spn]
  | i + 1, hi => by
    simp only [spn]
    rw [List.pairwise_append]
    refine ⟨spn_pw ok kk h1 h2 ps (i := i) (by omega), ?_, ?_⟩
    · split <;> simp
    · intro a ha b hb
      have h3 := spn_le ok kk h1 h2 ps (i := i) (by omega) a ha
      have hw := ok.wp (s + i) (by omega)
      split at hb
      · simp at hb
        subst hb
        simp only; omega
      · simp at hb
theorem spn_asc (ok : r.OK) (kk : k.OK) (h1 : s < e) (h2 : e ≤ r.ws.length) (ps : Poss r s e k) : Asc (spn (plc r s e k) r s (e - 1 - s)) :=
  ⟨fun u hu => by have := spn_ok ok kk h1 h2 ps (i := e - 1 - s) (by omega) u hu; omega, spn_pw ok kk h1 h2 ps (by omega)⟩
def isH : Jt → Bool | .gap _ _ _ => false | .hyp _ _ => true
def hyb (r : Row) (e : Nat) : Bool := decide (e < r.ws.length) && isH (r.j (e - 1))
theorem hyb_go (ok : r.OK) {hp : DH} (he : 0 < e) (he2 : e ≤ r.ws.length) : run_ends_at_hyphen [r.D, .int (e : Int)] hp = .ok (.bl (hyb r e)) hp := by
  rw [hy_go ok he he2]
  unfold hyb isH
  rcases r.j (e - 1) with ⟨_, _, _⟩ | ⟨_, _⟩ <;> rfl
theorem fm5 {hp : DH} : fldO ["Measure"] "twin" (some (meas k)) hp = .ok (.int k.tw) hp := (rfl)
theorem fm6 {hp : DH} : fldO ["Measure"] "river" (some (meas k)) hp = .ok (.int k.rv) hp := (rfl)
def prc (r : Row) (m e : Nat) (k : Key) (cnt : Int) : D := if 0 < k.rv ∧ k.rv ≤ cnt then .non else .int (if hyb r m = true ∧ hyb r e = true then k.tw else 0)
theorem pwc_go (ok : r.OK) {hp : DH} {mm : Nat} {cnt : Int} (h1 : 0 < m) (h2 : m < e) (h3 : e ≤ r.ws.length) (hm : hp[mm]? = some (meas k)) :
    run_price_with_count [r.D, .int (m : Int), .int (e : Int), .ref mm, .int cnt] hp = .ok (prc r m e k cnt) hp := by
  rw [ent_price_with_count]
  have y1 := hyb_go ok (e := m) (hp := hp) h1 (by omega)
  have y2 := hyb_go ok (e := e) (hp := hp) (by omega) h3
  have tail : fin (lp_price_with_count_0 [some r.D, some (.int (m : Int)), some (.int (e : Int)), some (.ref mm), some (.int cnt)] hp) = .ok (.int (if hyb r m = true ∧ hyb r e = true then k.tw else 0)) hp := by
    rcases a1 : hyb r m with _ | _
    · rw [a1] at y1
      simp only [lp_price_with_count_0, e_var, e_vget, e_c, e_op, e_op1, e_un, e_nil, e_cons, e_cons1, e_cons2, e_a0, e_ka0, e_app, e_app1, e_app2, e_tup, kT1, kT2, kT3, kT4, kT5, kT7, e_lst, kL0, kL1, kL2, kL3, kL4, kL5, e_test, e_ktest, e_and, e_andT, e_andF, e_or, e_orT, e_orF, e_not, e_knot, e_if, e_ifT, e_ifF, e_andv, e_andvT, e_andvF, e_orv, e_orvT, e_orvF, e_notv, e_knotv, e_ch, e_ch1, e_ch2, e_ch3T, e_ch3F, e_cb, e_call, e_make, e_fld, e_kfld, e_setf, e_setf1, e_setf2, e_seq, e_next, e_break, e_cont, e_expr, e_nx, e_ret, e_rt, e_retn, e_ifs, e_ifsT, e_ifsF, e_set, e_kset, e_asg, e_kasg, e_as2, e_gn, e_gtp, e_gto, e_gs0, e_gs1, e_for, e_rng1, e_rng2, e_srca, e_srcr, e_srco, e_srct, e_srcs, e_nop, e_part, e_kpart, e_sl, e_sl1, e_sl2, e_dslt, e_bm, e_kbm, e_bmo, e_add, e_sub, e_own1, e_mull, e_mulr, e_div, e_mod, e_neg, e_lt, e_gt, e_le, e_ge, e_eq, e_ne, e_eqs, e_eqb, e_ixt, e_ixs, e_ixr, e_ixo, e_ixR, at0, at1, at2, at3, at4, at5, at6, e_int, e_intT, e_intF, e_abs, e_min, e_max, e_lent, e_lens, e_lenr, e_leno, e_sumt, e_sumr, e_sumo, e_ftup, e_tupo, e_apnd, e_clr, e_clro, e_gix, e_gi1, e_gi2, e_gi0, e_giB, e_tru, e_trub, e_isi, e_isir, fin_nx, fin_rt, fin_ex, b_bind, b_st, b_nx, b_thn, b_thr, b_thb, b_thc, List.getElem?_cons_zero, List.getElem?_cons_succ, List.set_cons_zero, List.set_cons_succ, decide_true, decide_false, Bool.not_true, Bool.not_false, List.cons_append, List.nil_append, List.length_map, eq_self, Int.reduceLT, Int.reduceLE, and_self, and_true, true_and, e_comp, get_last, y1, Bool.false_eq_true, false_and, if_false]
    · rw [a1] at y1
      rcases a2 : hyb r e with _ | _
      · rw [a2] at y2
        simp only [lp_price_with_count_0, e_var, e_vget, e_c, e_op, e_op1, e_un, e_nil, e_cons, e_cons1, e_cons2, e_a0, e_ka0, e_app, e_app1, e_app2, e_tup, kT1, kT2, kT3, kT4, kT5, kT7, e_lst, kL0, kL1, kL2, kL3, kL4, kL5, e_test, e_ktest, e_and, e_andT, e_andF, e_or, e_orT, e_orF, e_not, e_knot, e_if, e_ifT, e_ifF, e_andv, e_andvT, e_andvF, e_orv, e_orvT, e_orvF, e_notv, e_knotv, e_ch, e_ch1, e_ch2, e_ch3T, e_ch3F, e_cb, e_call, e_make, e_fld, e_kfld, e_setf, e_setf1, e_setf2, e_seq, e_next, e_break, e_cont, e_expr, e_nx, e_ret, e_rt, e_retn, e_ifs, e_ifsT, e_ifsF, e_set, e_kset, e_asg, e_kasg, e_as2, e_gn, e_gtp, e_gto, e_gs0, e_gs1, e_for, e_rng1, e_rng2, e_srca, e_srcr, e_srco, e_srct, e_srcs, e_nop, e_part, e_kpart, e_sl, e_sl1, e_sl2, e_dslt, e_bm, e_kbm, e_bmo, e_add, e_sub, e_own1, e_mull, e_mulr, e_div, e_mod, e_neg, e_lt, e_gt, e_le, e_ge, e_eq, e_ne, e_eqs, e_eqb, e_ixt, e_ixs, e_ixr, e_ixo, e_ixR, at0, at1, at2, at3, at4, at5, at6, e_int, e_intT, e_intF, e_abs, e_min, e_max, e_lent, e_lens, e_lenr, e_leno, e_sumt, e_sumr, e_sumo, e_ftup, e_tupo, e_apnd, e_clr, e_clro, e_gix, e_gi1, e_gi2, e_gi0, e_giB, e_tru, e_trub, e_isi, e_isir, fin_nx, fin_rt, fin_ex, b_bind, b_st, b_nx, b_thn, b_thr, b_thb, b_thc, List.getElem?_cons_zero, List.getElem?_cons_succ, List.set_cons_zero, List.set_cons_succ, decide_true, decide_false, Bool.not_true, Bool.not_false, List.cons_append, List.nil_append, List.length_map, eq_self, Int.reduceLT, Int.reduceLE, and_self, and_true, true_and, e_comp, get_last, y1, y2, Bool.false_eq_true, and_false, if_false]
      · rw [a2] at y2
        simp only [lp_price_with_count_0, e_var, e_vget, e_c, e_op, e_op1, e_un, e_nil, e_cons, e_cons1, e_cons2, e_a0, e_ka0, e_app, e_app1, e_app2, e_tup, kT1, kT2, kT3, kT4, kT5, kT7, e_lst, kL0, kL1, kL2, kL3, kL4, kL5, e_test, e_ktest, e_and, e_andT, e_andF, e_or, e_orT, e_orF, e_not, e_knot, e_if, e_ifT, e_ifF, e_andv, e_andvT, e_andvF, e_orv, e_orvT, e_orvF, e_notv, e_knotv, e_ch, e_ch1, e_ch2, e_ch3T, e_ch3F, e_cb, e_call, e_make, e_fld, e_kfld, e_setf, e_setf1, e_setf2, e_seq, e_next, e_break, e_cont, e_expr, e_nx, e_ret, e_rt, e_retn, e_ifs, e_ifsT, e_ifsF, e_set, e_kset, e_asg, e_kasg, e_as2, e_gn, e_gtp, e_gto, e_gs0, e_gs1, e_for, e_rng1, e_rng2, e_srca, e_srcr, e_srco, e_srct, e_srcs, e_nop, e_part, e_kpart, e_sl, e_sl1, e_sl2, e_dslt, e_bm, e_kbm, e_bmo, e_add, e_sub, e_own1, e_mull, e_mulr, e_div, e_mod, e_neg, e_lt, e_gt, e_le, e_ge, e_eq, e_ne, e_eqs, e_eqb, e_ixt, e_ixs, e_ixr, e_ixo, e_ixR, at0, at1, at2, at3, at4, at5, at6, e_int, e_intT, e_intF, e_abs, e_min, e_max, e_lent, e_lens, e_lenr, e_leno, e_sumt, e_sumr, e_sumo, e_ftup, e_tupo, e_apnd, e_clr, e_clro, e_gix, e_gi1, e_gi2, e_gi0, e_giB, e_tru, e_trub, e_isi, e_isir, fin_nx, fin_rt, fin_ex, b_bind, b_st, b_nx, b_thn, b_thr, b_thb, b_thc, List.getElem?_cons_zero, List.getElem?_cons_succ, List.set_cons_zero, List.set_cons_succ, decide_true, decide_false, Bool.not_true, Bool.not_false, List.cons_append, List.nil_append, List.length_map, eq_self, Int.reduceLT, Int.reduceLE, and_self, and_true, true_and, e_comp, get_last, y1, y2, and_self, if_true, hm, fm5]
  unfold prc
  by_cases c1 : 0 < k.rv
  · by_cases c2 : k.rv ≤ cnt
    · simp only [m_price_with_count, e_var, e_vget, e_c, e_op, e_op1, e_un, e_nil, e_cons, e_cons1, e_cons2, e_a0, e_ka0, e_app, e_app1, e_app2, e_tup, kT1, kT2, kT3, kT4, kT5, kT7, e_lst, kL0, kL1, kL2, kL3, kL4, kL5, e_test, e_ktest, e_and, e_andT, e_andF, e_or, e_orT, e_orF, e_not, e_knot, e_if, e_ifT, e_ifF, e_andv, e_andvT, e_andvF, e_orv, e_orvT, e_orvF, e_notv, e_knotv, e_ch, e_ch1, e_ch2, e_ch3T, e_ch3F, e_cb, e_call, e_make, e_fld, e_kfld, e_setf, e_setf1, e_setf2, e_seq, e_next, e_break, e_cont, e_expr, e_nx, e_ret, e_rt, e_retn, e_ifs, e_ifsT, e_ifsF, e_set, e_kset, e_asg, e_kasg, e_as2, e_gn, e_gtp, e_gto, e_gs0, e_gs1, e_for, e_rng1, e_rng2, e_srca, e_srcr, e_srco, e_srct, e_srcs, e_nop, e_part, e_kpart, e_sl, e_sl1, e_sl2, e_dslt, e_bm, e_kbm, e_bmo, e_add, e_sub, e_own1, e_mull, e_mulr, e_div, e_mod, e_neg, e_lt, e_gt, e_le, e_ge, e_eq, e_ne, e_eqs, e_eqb, e_ixt, e_ixs, e_ixr, e_ixo, e_ixR, at0, at1, at2, at3, at4, at5, at6, e_int, e_intT, e_intF, e_abs, e_min, e_max, e_lent, e_lens, e_lenr, e_leno, e_sumt, e_sumr, e_sumo, e_ftup, e_tupo, e_apnd, e_clr, e_clro, e_gix, e_gi1, e_gi2, e_gi0, e_giB, e_tru, e_trub, e_isi, e_isir, fin_nx, fin_rt, fin_ex, b_bind, b_st, b_nx, b_thn, b_thr, b_thb, b_thc, List.getElem?_cons_zero, List.getElem?_cons_succ, List.set_cons_zero, List.set_cons_succ, decide_true, decide_false, Bool.not_true, Bool.not_false, List.cons_append, List.nil_append, List.length_map, eq_self, Int.reduceLT, Int.reduceLE, and_self, and_true, true_and, e_comp, get_last, hm, fm6, c1, c2, and_self, if_true]
    · rw [if_neg (fun h => c2 h.2)]
      simp only [m_price_with_count, e_var, e_vget, e_c, e_op, e_op1, e_un, e_nil, e_cons, e_cons1, e_cons2, e_a0, e_ka0, e_app, e_app1, e_app2, e_tup, kT1, kT2, kT3, kT4, kT5, kT7, e_lst, kL0, kL1, kL2, kL3, kL4, kL5, e_test, e_ktest, e_and, e_andT, e_andF, e_or, e_orT, e_orF, e_not, e_knot, e_if, e_ifT, e_ifF, e_andv, e_andvT, e_andvF, e_orv, e_orvT, e_orvF, e_notv, e_knotv, e_ch, e_ch1, e_ch2, e_ch3T, e_ch3F, e_cb, e_call, e_make, e_fld, e_kfld, e_setf, e_setf1, e_setf2, e_seq, e_next, e_break, e_cont, e_expr, e_nx, e_ret, e_rt, e_retn, e_ifs, e_ifsT, e_ifsF, e_set, e_kset, e_asg, e_kasg, e_as2, e_gn, e_gtp, e_gto, e_gs0, e_gs1, e_for, e_rng1, e_rng2, e_srca, e_srcr, e_srco, e_srct, e_srcs, e_nop, e_part, e_kpart, e_sl, e_sl1, e_sl2, e_dslt, e_bm, e_kbm, e_bmo, e_add, e_sub, e_own1, e_mull, e_mulr, e_div, e_mod, e_neg, e_lt, e_gt, e_le, e_ge, e_eq, e_ne, e_eqs, e_eqb, e_ixt, e_ixs, e_ixr, e_ixo, e_ixR, at0, at1, at2, at3, at4, at5, at6, e_int, e_intT, e_intF, e_abs, e_min, e_max, e_lent, e_lens, e_lenr, e_leno, e_sumt, e_sumr, e_sumo, e_ftup, e_tupo, e_apnd, e_clr, e_clro, e_gix, e_gi1, e_gi2, e_gi0, e_giB, e_tru, e_trub, e_isi, e_isir, fin_nx, fin_rt, fin_ex, b_bind, b_st, b_nx, b_thn, b_thr, b_thb, b_thc, List.getElem?_cons_zero, List.getElem?_cons_succ, List.set_cons_zero, List.set_cons_succ, decide_true, decide_false, Bool.not_true, Bool.not_false, List.cons_append, List.nil_append, List.length_map, eq_self, Int.reduceLT, Int.reduceLE, and_self, and_true, true_and, e_comp, get_last, hm, fm6, c1, c2]
      exact tail
  · rw [if_neg (fun h => c1 h.1)]
    simp only [m_price_with_count, e_var, e_vget, e_c, e_op, e_op1, e_un, e_nil, e_cons, e_cons1, e_cons2, e_a0, e_ka0, e_app, e_app1, e_app2, e_tup, kT1, kT2, kT3, kT4, kT5, kT7, e_lst, kL0, kL1, kL2, kL3, kL4, kL5, e_test, e_ktest, e_and, e_andT, e_andF, e_or, e_orT, e_orF, e_not, e_knot, e_if, e_ifT, e_ifF, e_andv, e_andvT, e_andvF, e_orv, e_orvT, e_orvF, e_notv, e_knotv, e_ch, e_ch1, e_ch2, e_ch3T, e_ch3F, e_cb, e_call, e_make, e_fld, e_kfld, e_setf, e_setf1, e_setf2, e_seq, e_next, e_break, e_cont, e_expr, e_nx, e_ret, e_rt, e_retn, e_ifs, e_ifsT, e_ifsF, e_set, e_kset, e_asg, e_kasg, e_as2, e_gn, e_gtp, e_gto, e_gs0, e_gs1, e_for, e_rng1, e_rng2, e_srca, e_srcr, e_srco, e_srct, e_srcs, e_nop, e_part, e_kpart, e_sl, e_sl1, e_sl2, e_dslt, e_bm, e_kbm, e_bmo, e_add, e_sub, e_own1, e_mull, e_mulr, e_div, e_mod, e_neg, e_lt, e_gt, e_le, e_ge, e_eq, e_ne, e_eqs, e_eqb, e_ixt, e_ixs, e_ixr, e_ixo, e_ixR, at0, at1, at2, at3, at4, at5, at6, e_int, e_intT, e_intF, e_abs, e_min, e_max, e_lent, e_lens, e_lenr, e_leno, e_sumt, e_sumr, e_sumo, e_ftup, e_tupo, e_apnd, e_clr, e_clro, e_gix, e_gi1, e_gi2, e_gi0, e_giB, e_tru, e_trub, e_isi, e_isir, fin_nx, fin_rt, fin_ex, b_bind, b_st, b_nx, b_thn, b_thr, b_thb, b_thc, List.getElem?_cons_zero, List.getElem?_cons_succ, List.set_cons_zero, List.set_cons_succ, decide_true, decide_false, Bool.not_true, Bool.not_false, List.cons_append, List.nil_append, List.length_map, eq_self, Int.reduceLT, Int.reduceLE, and_self, and_true, true_and, e_comp, get_last, hm, fm6, c1]
    exact tail
def cntK (r : Row) (s m e : Nat) (k : Key) : Int := cntM (spn (plc r s m k) r s (m - 1 - s)) (spn (plc r m e k) r m (e - 1 - m)) (spn (plc r m e k) r m (e - 1 - m)).length
theorem pp_go (ok : r.OK) (kk : k.OK) {hp : DH} {mm : Nat} (h1 : s < m) (h2 : m < e) (h3 : e ≤ r.ws.length) (p1 : Poss r s m k) (p2 : Poss r m e k) (hm : hp[mm]? = some (meas k)) :
    ∃ hp', run_pair_price [r.D, .int (s : Int), .int (m : Int), .int (e : Int), .ref mm] hp = .ok (prc r m e k (cntK r s m e k)) hp' ∧ Ol hp hp' := by
  have hmax := ok.max
  rw [ent_pair_price]
  by_cases c1 : 0 < k.rv
  · obtain ⟨a, hp1, e1, ha, ol1, ga⟩ := spans_go ok kk h1 (by omega) p1 hm
    obtain ⟨b, hp2, e2, hb, ol2, gb⟩ := spans_go ok kk h2 h3 p2 (ol1.get hm)
    have l1 := spn_len (P := plc r s m k) (r := r) (s := s) (i := m - 1 - s)
    have l2 := spn_len (P := plc r m e k) (r := r) (s := m) (i := e - 1 - m)
    have ec := cnt_go (spn_asc ok kk h1 (by omega) p1) (spn_asc ok kk h2 h3 p2) (by omega) (by omega) (ol2.get ga) gb
    have ep := pwc_go ok (cnt := cntK r s m e k) (k := k) (by omega) h2 h3 (ol2.get (ol1.get hm))
    simp only [Row.D] at e1 e2 ep
    unfold cntK at ep ⊢
    simp only [m_pair_price, lp_pair_price_0, e_var, e_vget, e_c, e_op, e_op1, e_un, e_nil, e_cons, e_cons1, e_cons2, e_a0, e_ka0, e_app, e_app1, e_app2, e_tup, kT1, kT2, kT3, kT4, kT5, kT7, e_lst, kL0, kL1, kL2, kL3, kL4, kL5, e_test, e_ktest, e_and, e_andT, e_andF, e_or, e_orT, e_orF, e_not, e_knot, e_if, e_ifT, e_ifF, e_andv, e_andvT, e_andvF, e_orv, e_orvT, e_orvF, e_notv, e_knotv, e_ch, e_ch1, e_ch2, e_ch3T, e_ch3F, e_cb, e_call, e_make, e_fld, e_kfld, e_setf, e_setf1, e_setf2, e_seq, e_next, e_break, e_cont, e_expr, e_nx, e_ret, e_rt, e_retn, e_ifs, e_ifsT, e_ifsF, e_set, e_kset, e_asg, e_kasg, e_as2, e_gn, e_gtp, e_gto, e_gs0, e_gs1, e_for, e_rng1, e_rng2, e_srca, e_srcr, e_srco, e_srct, e_srcs, e_nop, e_part, e_kpart, e_sl, e_sl1, e_sl2, e_dslt, e_bm, e_kbm, e_bmo, e_add, e_sub, e_own1, e_mull, e_mulr, e_div, e_mod, e_neg, e_lt, e_gt, e_le, e_ge, e_eq, e_ne, e_eqs, e_eqb, e_ixt, e_ixs, e_ixr, e_ixo, e_ixR, at0, at1, at2, at3, at4, at5, at6, e_int, e_intT, e_intF, e_abs, e_min, e_max, e_lent, e_lens, e_lenr, e_leno, e_sumt, e_sumr, e_sumo, e_ftup, e_tupo, e_apnd, e_clr, e_clro, e_gix, e_gi1, e_gi2, e_gi0, e_giB, e_tru, e_trub, e_isi, e_isir, fin_nx, fin_rt, fin_ex, b_bind, b_st, b_nx, b_thn, b_thr, b_thb, b_thc, List.getElem?_cons_zero, List.getElem?_cons_succ, List.set_cons_zero, List.set_cons_succ, decide_true, decide_false, Bool.not_true, Bool.not_false, List.cons_append, List.nil_append, List.length_map, eq_self, Int.reduceLT, Int.reduceLE, and_self, and_true, true_and, e_comp, get_last, hm, fm6, c1, Row.D, e1, e2, ec, ep]
    exact ⟨_, rfl, ol1.trans ol2⟩
  · have ep := pwc_go ok (cnt := 0) (k := k) (by omega) h2 h3 hm
    have : prc r m e k (cntK r s m e k) = prc r m e k 0 := by
      simp only [prc, c1, false_and, if_false]
    rw [this]
    simp only [m_pair_price, lp_pair_price_0, e_var, e_vget, e_c, e_op, e_op1, e_un, e_nil, e_cons, e_cons1, e_cons2, e_a0, e_ka0, e_app, e_app1, e_app2, e_tup, kT1, kT2, kT3, kT4, kT5, kT7, e_lst, kL0, kL1, kL2, kL3, kL4, kL5, e_test, e_ktest, e_and, e_andT, e_andF, e_or, e_orT, e_orF, e_not, e_knot, e_if, e_ifT, e_ifF, e_andv, e_andvT, e_andvF, e_orv, e_orvT, e_orvF, e_notv, e_knotv, e_ch, e_ch1, e_ch2, e_ch3T, e_ch3F, e_cb, e_call, e_make, e_fld, e_kfld, e_setf, e_setf1, e_setf2, e_seq, e_next, e_break, e_cont, e_expr, e_nx, e_ret, e_rt, e_retn, e_ifs, e_ifsT, e_ifsF, e_set, e_kset, e_asg, e_kasg, e_as2, e_gn, e_gtp, e_gto, e_gs0, e_gs1, e_for, e_rng1, e_rng2, e_srca, e_srcr, e_srco, e_srct, e_srcs, e_nop, e_part, e_kpart, e_sl, e_sl1, e_sl2, e_dslt, e_bm, e_kbm, e_bmo, e_add, e_sub, e_own1, e_mull, e_mulr, e_div, e_mod, e_neg, e_lt, e_gt, e_le, e_ge, e_eq, e_ne, e_eqs, e_eqb, e_ixt, e_ixs, e_ixr, e_ixo, e_ixR, at0, at1, at2, at3, at4, at5, at6, e_int, e_intT, e_intF, e_abs, e_min, e_max, e_lent, e_lens, e_lenr, e_leno, e_sumt, e_sumr, e_sumo, e_ftup, e_tupo, e_apnd, e_clr, e_clro, e_gix, e_gi1, e_gi2, e_gi0, e_giB, e_tru, e_trub, e_isi, e_isir, fin_nx, fin_rt, fin_ex, b_bind, b_st, b_nx, b_thn, b_thr, b_thb, b_thc, List.getElem?_cons_zero, List.getElem?_cons_succ, List.set_cons_zero, List.set_cons_succ, decide_true, decide_false, Bool.not_true, Bool.not_false, List.cons_append, List.nil_append, List.length_map, eq_self, Int.reduceLT, Int.reduceLE, and_self, and_true, true_and, e_comp, get_last, hm, fm6, c1, ep]
    exact ⟨_, rfl, Ol.refl _⟩
theorem twin_go (ok : r.OK) (kk : k.OK) {hp : DH} {t : Nat} (h1 : s < m) (h2 : m < e) (h3 : e ≤ r.ws.length) (ht : hp[t]? = some (.lst [.int (s : Int), .int (m : Int), .int (e : Int)])) :
    run__law_twin [r.D, .ref t, k.D] hp = .ok (.int (if hyb r m = true ∧ hyb r e = true then k.tw else 0)) hp := by
  rw [ent__law_twin]
  have q : ∀ x hp, dMul (.int k.tw) (.int x) hp = .ok (.int (k.tw * x)) hp := fun x hp => e_mull (by have := kk.t0; have := kk.t1; omega)
  have aj := ok.atj (i := m - 1) (by omega)
  rw [show ((m - 1 : Nat) : Int) = (m : Int) - 1 by omega] at aj
  by_cases c1 : e = r.ws.length
  · have c1' : (e : Int) = (r.ws.length : Int) := by omega
    have hy : hyb r e = false := by unfold hyb; simp [c1]
    simp only [m__law_twin, lp__law_twin_0, e_var, e_vget, e_c, e_op, e_op1, e_un, e_nil, e_cons, e_cons1, e_cons2, e_a0, e_ka0, e_app, e_app1, e_app2, e_tup, kT1, kT2, kT3, kT4, kT5, kT7, e_lst, kL0, kL1, kL2, kL3, kL4, kL5, e_test, e_ktest, e_and, e_andT, e_andF, e_or, e_orT, e_orF, e_not, e_knot, e_if, e_ifT, e_ifF, e_andv, e_andvT, e_andvF, e_orv, e_orvT, e_orvF, e_notv, e_knotv, e_ch, e_ch1, e_ch2, e_ch3T, e_ch3F, e_cb, e_call, e_make, e_fld, e_kfld, e_setf, e_setf1, e_setf2, e_seq, e_next, e_break, e_cont, e_expr, e_nx, e_ret, e_rt, e_retn, e_ifs, e_ifsT, e_ifsF, e_set, e_kset, e_asg, e_kasg, e_as2, e_gn, e_gtp, e_gto, e_gs0, e_gs1, e_for, e_rng1, e_rng2, e_srca, e_srcr, e_srco, e_srct, e_srcs, e_nop, e_part, e_kpart, e_sl, e_sl1, e_sl2, e_dslt, e_bm, e_kbm, e_bmo, e_add, e_sub, e_own1, e_mull, e_mulr, e_div, e_mod, e_neg, e_lt, e_gt, e_le, e_ge, e_eq, e_ne, e_eqs, e_eqb, e_ixt, e_ixs, e_ixr, e_ixo, e_ixR, at0, at1, at2, at3, at4, at5, at6, e_int, e_intT, e_intF, e_abs, e_min, e_max, e_lent, e_lens, e_lenr, e_leno, e_sumt, e_sumr, e_sumo, e_ftup, e_tupo, e_apnd, e_clr, e_clro, e_gix, e_gi1, e_gi2, e_gi0, e_giB, e_tru, e_trub, e_isi, e_isir, fin_nx, fin_rt, fin_ex, b_bind, b_st, b_nx, b_thn, b_thr, b_thb, b_thc, List.getElem?_cons_zero, List.getElem?_cons_succ, List.set_cons_zero, List.set_cons_succ, decide_true, decide_false, Bool.not_true, Bool.not_false, List.cons_append, List.nil_append, List.length_map, eq_self, Int.reduceLT, Int.reduceLE, and_self, and_true, true_and, e_comp, get_last, ht, Row.D, Key.D, c1', hy, Bool.false_eq_true, and_false, if_false]
  · have c1' : ¬ (e : Int) = (r.ws.length : Int) := by omega
    have aj2 := ok.atj (i := e - 1) (by omega)
    rw [show ((e - 1 : Nat) : Int) = (e : Int) - 1 by omega] at aj2
    have hmb : hyb r m = isH (r.j (m - 1)) := by unfold hyb; rw [decide_eq_true (by omega), Bool.true_and]
    have heb : hyb r e = isH (r.j (e - 1)) := by unfold hyb; rw [decide_eq_true (by omega), Bool.true_and]
    rw [hmb, heb]
    rcases hj2 : r.j (e - 1) with ⟨w, x, l⟩ | ⟨x, b⟩
    · rw [hj2] at aj2
      simp only [m__law_twin, lp__law_twin_0, e_var, e_vget, e_c, e_op, e_op1, e_un, e_nil, e_cons, e_cons1, e_cons2, e_a0, e_ka0, e_app, e_app1, e_app2, e_tup, kT1, kT2, kT3, kT4, kT5, kT7, e_lst, kL0, kL1, kL2, kL3, kL4, kL5, e_test, e_ktest, e_and, e_andT, e_andF, e_or, e_orT, e_orF, e_not, e_knot, e_if, e_ifT, e_ifF, e_andv, e_andvT, e_andvF, e_orv, e_orvT, e_orvF, e_notv, e_knotv, e_ch, e_ch1, e_ch2, e_ch3T, e_ch3F, e_cb, e_call, e_make, e_fld, e_kfld, e_setf, e_setf1, e_setf2, e_seq, e_next, e_break, e_cont, e_expr, e_nx, e_ret, e_rt, e_retn, e_ifs, e_ifsT, e_ifsF, e_set, e_kset, e_asg, e_kasg, e_as2, e_gn, e_gtp, e_gto, e_gs0, e_gs1, e_for, e_rng1, e_rng2, e_srca, e_srcr, e_srco, e_srct, e_srcs, e_nop, e_part, e_kpart, e_sl, e_sl1, e_sl2, e_dslt, e_bm, e_kbm, e_bmo, e_add, e_sub, e_own1, e_mull, e_mulr, e_div, e_mod, e_neg, e_lt, e_gt, e_le, e_ge, e_eq, e_ne, e_eqs, e_eqb, e_ixt, e_ixs, e_ixr, e_ixo, e_ixR, at0, at1, at2, at3, at4, at5, at6, e_int, e_intT, e_intF, e_abs, e_min, e_max, e_lent, e_lens, e_lenr, e_leno, e_sumt, e_sumr, e_sumo, e_ftup, e_tupo, e_apnd, e_clr, e_clro, e_gix, e_gi1, e_gi2, e_gi0, e_giB, e_tru, e_trub, e_isi, e_isir, fin_nx, fin_rt, fin_ex, b_bind, b_st, b_nx, b_thn, b_thr, b_thb, b_thc, List.getElem?_cons_zero, List.getElem?_cons_succ, List.set_cons_zero, List.set_cons_succ, decide_true, decide_false, Bool.not_true, Bool.not_false, List.cons_append, List.nil_append, List.length_map, eq_self, Int.reduceLT, Int.reduceLE, and_self, and_true, true_and, e_comp, get_last, e_nes, ht, Row.D, Key.D, c1', aj2, Jt.D, s_gh, isH, Bool.false_eq_true, and_false, if_false]
    · rw [hj2] at aj2
      rcases hj : r.j (m - 1) with ⟨w, x', l⟩ | ⟨x', b'⟩
      · rw [hj] at aj
        simp only [m__law_twin, lp__law_twin_0, e_var, e_vget, e_c, e_op, e_op1, e_un, e_nil, e_cons, e_cons1, e_cons2, e_a0, e_ka0, e_app, e_app1, e_app2, e_tup, kT1, kT2, kT3, kT4, kT5, kT7, e_lst, kL0, kL1, kL2, kL3, kL4, kL5, e_test, e_ktest, e_and, e_andT, e_andF, e_or, e_orT, e_orF, e_not, e_knot, e_if, e_ifT, e_ifF, e_andv, e_andvT, e_andvF, e_orv, e_orvT, e_orvF, e_notv, e_knotv, e_ch, e_ch1, e_ch2, e_ch3T, e_ch3F, e_cb, e_call, e_make, e_fld, e_kfld, e_setf, e_setf1, e_setf2, e_seq, e_next, e_break, e_cont, e_expr, e_nx, e_ret, e_rt, e_retn, e_ifs, e_ifsT, e_ifsF, e_set, e_kset, e_asg, e_kasg, e_as2, e_gn, e_gtp, e_gto, e_gs0, e_gs1, e_for, e_rng1, e_rng2, e_srca, e_srcr, e_srco, e_srct, e_srcs, e_nop, e_part, e_kpart, e_sl, e_sl1, e_sl2, e_dslt, e_bm, e_kbm, e_bmo, e_add, e_sub, e_own1, e_mull, e_mulr, e_div, e_mod, e_neg, e_lt, e_gt, e_le, e_ge, e_eq, e_ne, e_eqs, e_eqb, e_ixt, e_ixs, e_ixr, e_ixo, e_ixR, at0, at1, at2, at3, at4, at5, at6, e_int, e_intT, e_intF, e_abs, e_min, e_max, e_lent, e_lens, e_lenr, e_leno, e_sumt, e_sumr, e_sumo, e_ftup, e_tupo, e_apnd, e_clr, e_clro, e_gix, e_gi1, e_gi2, e_gi0, e_giB, e_tru, e_trub, e_isi, e_isir, fin_nx, fin_rt, fin_ex, b_bind, b_st, b_nx, b_thn, b_thr, b_thb, b_thc, List.getElem?_cons_zero, List.getElem?_cons_succ, List.set_cons_zero, List.set_cons_succ, decide_true, decide_false, Bool.not_true, Bool.not_false, List.cons_append, List.nil_append, List.length_map, eq_self, Int.reduceLT, Int.reduceLE, and_self, and_true, true_and, e_comp, get_last, e_nes, ht, Row.D, Key.D, c1', aj2, aj, Jt.D, s_gh, s_hh, isH, Bool.false_eq_true, false_and, if_false, q, Int.mul_zero]
      · rw [hj] at aj
        simp only [m__law_twin, lp__law_twin_0, e_var, e_vget, e_c, e_op, e_op1, e_un, e_nil, e_cons, e_cons1, e_cons2, e_a0, e_ka0, e_app, e_app1, e_app2, e_tup, kT1, kT2, kT3, kT4, kT5, kT7, e_lst, kL0, kL1, kL2, kL3, kL4, kL5, e_test, e_ktest, e_and, e_andT, e_andF, e_or, e_orT, e_orF, e_not, e_knot, e_if, e_ifT, e_ifF, e_andv, e_andvT, e_andvF, e_orv, e_orvT, e_orvF, e_notv, e_knotv, e_ch, e_ch1, e_ch2, e_ch3T, e_ch3F, e_cb, e_call, e_make, e_fld, e_kfld, e_setf, e_setf1, e_setf2, e_seq, e_next, e_break, e_cont, e_expr, e_nx, e_ret, e_rt, e_retn, e_ifs, e_ifsT, e_ifsF, e_set, e_kset, e_asg, e_kasg, e_as2, e_gn, e_gtp, e_gto, e_gs0, e_gs1, e_for, e_rng1, e_rng2, e_srca, e_srcr, e_srco, e_srct, e_srcs, e_nop, e_part, e_kpart, e_sl, e_sl1, e_sl2, e_dslt, e_bm, e_kbm, e_bmo, e_add, e_sub, e_own1, e_mull, e_mulr, e_div, e_mod, e_neg, e_lt, e_gt, e_le, e_ge, e_eq, e_ne, e_eqs, e_eqb, e_ixt, e_ixs, e_ixr, e_ixo, e_ixR, at0, at1, at2, at3, at4, at5, at6, e_int, e_intT, e_intF, e_abs, e_min, e_max, e_lent, e_lens, e_lenr, e_leno, e_sumt, e_sumr, e_sumo, e_ftup, e_tupo, e_apnd, e_clr, e_clro, e_gix, e_gi1, e_gi2, e_gi0, e_giB, e_tru, e_trub, e_isi, e_isir, fin_nx, fin_rt, fin_ex, b_bind, b_st, b_nx, b_thn, b_thr, b_thb, b_thc, List.getElem?_cons_zero, List.getElem?_cons_succ, List.set_cons_zero, List.set_cons_succ, decide_true, decide_false, Bool.not_true, Bool.not_false, List.cons_append, List.nil_append, List.length_map, eq_self, Int.reduceLT, Int.reduceLE, and_self, and_true, true_and, e_comp, get_last, e_nes, ht, Row.D, Key.D, c1', aj2, aj, Jt.D, s_gh, s_hh, isH, and_self, if_true, q, Int.mul_one]
theorem priced_go (ok : r.OK) (kk : k.OK) {hp : DH} {t : Nat} (h1 : s < m) (h2 : m < e) (h3 : e ≤ r.ws.length) (p1 : Poss r s m k) (p2 : Poss r m e k) (ht : hp[t]? = some (.lst [.int (s : Int), .int (m : Int), .int (e : Int)])) :
    ∃ hp', run__law_priced [r.D, .ref t, k.D] hp = .ok (.bl true) hp' ∧ Ol hp hp' := by
  have hmax := ok.max
  rw [ent__law_priced]
  obtain ⟨n1, a1, b1, hp1, e1, ol1, g1, u1⟩ := lspans_go ok kk h1 (by omega) p1 (hp := hp)
  have ht1 := ol1.get ht
  obtain ⟨n2, a2, b2, hp2, e2, ol2, g2, u2⟩ := lspans_go ok kk h2 h3 p2 (hp := hp1)
  have ht2 := ol2.get ht1
  have l1 := spn_len (P := plc r s m k) (r := r) (s := s) (i := m - 1 - s)
  have l2 := spn_len (P := plc r m e k) (r := r) (s := m) (i := e - 1 - m)
  obtain ⟨hp3, e3, px3⟩ := meet_go (by omega) (by omega) (ol2.get u1) u2
  have ht3 := px3.get ht2
  have hcnt : cntM (spn (plc r s m k) r s (m - 1 - s)) (spn (plc r m e k) r m (e - 1 - m)) (spn (plc r m e k) r m (e - 1 - m)).length = cntK r s m e k := rfl
  rw [hcnt] at e3
  let ds : List Int := [k.rv, 0, 1, 2, 3, 4, 5, 6, 7, 8, 9, k.rv]
  obtain ⟨env', hp', ef, ol, hl, x6, x7, x8, rfl⟩ := for_lst (j := 6) (a := hp3.length) (b := lp__law_priced_0) (ds := ds.map D.int) (hp := hp3 ++ [.lst (ds.map D.int)]) (env := [some r.D, some (.ref t), some k.D, some (.ref b1), some (.ref b2), some (.int (cntK r s m e k)), none, none, none])
    (fun i env' hp' => Ol hp3 hp' ∧ hp'[hp3.length]? = some (.lst (ds.map D.int)) ∧ ∃ (x6 x7 x8 : Option D), env' = [some r.D, some (.ref t), some k.D, some (.ref b1), some (.ref b2), some (.int (cntK r s m e k)), x6, x7, x8])
    ⟨(Px.app _ _).ol, get_last, none, none, none, rfl⟩ (fun _ _ _ h => h.2.1) (by
      rintro i d env hp4 hd ⟨ol, hl, x6, x7, x8, rfl⟩
      obtain ⟨z, hz, rfl⟩ := List.mem_map.mp (List.mem_of_getElem? hd)
      have hz2 : 0 ≤ z ∧ z < 10 := by
        have h0 := kk.r0
        have h9 := kk.r1
        simp only [ds, List.mem_cons, List.not_mem_nil, or_false] at hz
        omega
      let k2 : Key := { k with rv := z }
      have kk2 : k2.OK := ⟨kk.i0, kk.i1, kk.h0, kk.h1, kk.t0, kk.t1, hz2.1, hz2.2, kk.l0, kk.l1⟩
      have hk2 : D.tup [.int k.wide, .int k.ind, .str (sideS k.both), .int k.hy, .int k.tw, .int z, .int k.ls] = k2.D := rfl
      have em := meas_go (hp := hp4) (k := k2)
      obtain ⟨hp5, e5, ol5⟩ := pp_go ok kk2 (hp := hp4 ++ [meas k2]) (mm := hp4.length) h1 h2 h3 ⟨p1.neg, p1.pos⟩ ⟨p2.neg, p2.pos⟩ get_last
      have hc2 : cntK r s m e k2 = cntK r s m e k := rfl
      rw [hc2] at e5
      have ht4 := ol.get ht3
      have ht4' := get_app (e := [meas k2]) ht4
      have ht5 := ol5.get ht4'
      have et := twin_go ok kk h1 h2 h3 ht5
      simp only [Key.D] at et hk2
      have hcase : prc r m e k2 (cntK r s m e k) = if 0 < z ∧ z ≤ cntK r s m e k then .non else .int (if hyb r m = true ∧ hyb r e = true then k.tw else 0) := rfl
      rw [hcase] at e5
      simp only [lp__law_priced_0, e_var, e_vget, e_c, e_op, e_op1, e_un, e_nil, e_cons, e_cons1, e_cons2, e_a0, e_ka0, e_app, e_app1, e_app2, e_tup, kT1, kT2, kT3, kT4, kT5, kT7, e_lst, kL0, kL1, kL2, kL3, kL4, kL5, e_test, e_ktest, e_and, e_andT, e_andF, e_or, e_orT, e_orF, e_not, e_knot, e_if, e_ifT, e_ifF, e_andv, e_andvT, e_andvF, e_orv, e_orvT, e_orvF, e_notv, e_knotv, e_ch, e_ch1, e_ch2, e_ch3T, e_ch3F, e_cb, e_call, e_make, e_fld, e_kfld, e_setf, e_setf1, e_setf2, e_seq, e_next, e_break, e_cont, e_expr, e_nx, e_ret, e_rt, e_retn, e_ifs, e_ifsT, e_ifsF, e_set, e_kset, e_asg, e_kasg, e_as2, e_gn, e_gtp, e_gto, e_gs0, e_gs1, e_for, e_rng1, e_rng2, e_srca, e_srcr, e_srco, e_srct, e_srcs, e_nop, e_part, e_kpart, e_sl, e_sl1, e_sl2, e_dslt, e_bm, e_kbm, e_bmo, e_add, e_sub, e_own1, e_mull, e_mulr, e_div, e_mod, e_neg, e_lt, e_gt, e_le, e_ge, e_eq, e_ne, e_eqs, e_eqb, e_ixt, e_ixs, e_ixr, e_ixo, e_ixR, at0, at1, at2, at3, at4, at5, at6, e_int, e_intT, e_intF, e_abs, e_min, e_max, e_lent, e_lens, e_lenr, e_leno, e_sumt, e_sumr, e_sumo, e_ftup, e_tupo, e_apnd, e_clr, e_clro, e_gix, e_gi1, e_gi2, e_gi0, e_giB, e_tru, e_trub, e_isi, e_isir, fin_nx, fin_rt, fin_ex, b_bind, b_st, b_nx, b_thn, b_thr, b_thb, b_thc, List.getElem?_cons_zero, List.getElem?_cons_succ, List.set_cons_zero, List.set_cons_succ, decide_true, decide_false, Bool.not_true, Bool.not_false, List.cons_append, List.nil_append, List.length_map, eq_self, Int.reduceLT, Int.reduceLE, and_self, and_true, true_and, e_comp, get_last, Key.D, cut5, kA52, hk2]
      have em2 : run_Measure_of [k2.D] hp4 = _ := em
      simp only [Key.D] at em2
      simp only [e_var, e_vget, e_c, e_op, e_op1, e_un, e_nil, e_cons, e_cons1, e_cons2, e_a0, e_ka0, e_app, e_app1, e_app2, e_tup, kT1, kT2, kT3, kT4, kT5, kT7, e_lst, kL0, kL1, kL2, kL3, kL4, kL5, e_test, e_ktest, e_and, e_andT, e_andF, e_or, e_orT, e_orF, e_not, e_knot, e_if, e_ifT, e_ifF, e_andv, e_andvT, e_andvF, e_orv, e_orvT, e_orvF, e_notv, e_knotv, e_ch, e_ch1, e_ch2, e_ch3T, e_ch3F, e_cb, e_call, e_make, e_fld, e_kfld, e_setf, e_setf1, e_setf2, e_seq, e_next, e_break, e_cont, e_expr, e_nx, e_ret, e_rt, e_retn, e_ifs, e_ifsT, e_ifsF, e_set, e_kset, e_asg, e_kasg, e_as2, e_gn, e_gtp, e_gto, e_gs0, e_gs1, e_for, e_rng1, e_rng2, e_srca, e_srcr, e_srco, e_srct, e_srcs, e_nop, e_part, e_kpart, e_sl, e_sl1, e_sl2, e_dslt, e_bm, e_kbm, e_bmo, e_add, e_sub, e_own1, e_mull, e_mulr, e_div, e_mod, e_neg, e_lt, e_gt, e_le, e_ge, e_eq, e_ne, e_eqs, e_eqb, e_ixt, e_ixs, e_ixr, e_ixo, e_ixR, at0, at1, at2, at3, at4, at5, at6, e_int, e_intT, e_intF, e_abs, e_min, e_max, e_lent, e_lens, e_lenr, e_leno, e_sumt, e_sumr, e_sumo, e_ftup, e_tupo, e_apnd, e_clr, e_clro, e_gix, e_gi1, e_gi2, e_gi0, e_giB, e_tru, e_trub, e_isi, e_isir, fin_nx, fin_rt, fin_ex, b_bind, b_st, b_nx, b_thn, b_thr, b_thb, b_thc, List.getElem?_cons_zero, List.getElem?_cons_succ, List.set_cons_zero, List.set_cons_succ, decide_true, decide_false, Bool.not_true, Bool.not_false, List.cons_append, List.nil_append, List.length_map, eq_self, Int.reduceLT, Int.reduceLE, and_self, and_true, true_and, e_comp, get_last, em2, ht4', e5]
      by_cases c1 : 0 < z
      · by_cases c2 : z ≤ cntK r s m e k
        · simp only [c1, c2, e_var, e_vget, e_c, e_op, e_op1, e_un, e_nil, e_cons, e_cons1, e_cons2, e_a0, e_ka0, e_app, e_app1, e_app2, e_tup, kT1, kT2, kT3, kT4, kT5, kT7, e_lst, kL0, kL1, kL2, kL3, kL4, kL5, e_test, e_ktest, e_and, e_andT, e_andF, e_or, e_orT, e_orF, e_not, e_knot, e_if, e_ifT, e_ifF, e_andv, e_andvT, e_andvF, e_orv, e_orvT, e_orvF, e_notv, e_knotv, e_ch, e_ch1, e_ch2, e_ch3T, e_ch3F, e_cb, e_call, e_make, e_fld, e_kfld, e_setf, e_setf1, e_setf2, e_seq, e_next, e_break, e_cont, e_expr, e_nx, e_ret, e_rt, e_retn, e_ifs, e_ifsT, e_ifsF, e_set, e_kset, e_asg, e_kasg, e_as2, e_gn, e_gtp, e_gto, e_gs0, e_gs1, e_for, e_rng1, e_rng2, e_srca, e_srcr, e_srco, e_srct, e_srcs, e_nop, e_part, e_kpart, e_sl, e_sl1, e_sl2, e_dslt, e_bm, e_kbm, e_bmo, e_add, e_sub, e_own1, e_mull, e_mulr, e_div, e_mod, e_neg, e_lt, e_gt, e_le, e_ge, e_eq, e_ne, e_eqs, e_eqb, e_ixt, e_ixs, e_ixr, e_ixo, e_ixR, at0, at1, at2, at3, at4, at5, at6, e_int, e_intT, e_intF, e_abs, e_min, e_max, e_lent, e_lens, e_lenr, e_leno, e_sumt, e_sumr, e_sumo, e_ftup, e_tupo, e_apnd, e_clr, e_clro, e_gix, e_gi1, e_gi2, e_gi0, e_giB, e_tru, e_trub, e_isi, e_isir, fin_nx, fin_rt, fin_ex, b_bind, b_st, b_nx, b_thn, b_thr, b_thb, b_thc, List.getElem?_cons_zero, List.getElem?_cons_succ, List.set_cons_zero, List.set_cons_succ, decide_true, decide_false, Bool.not_true, Bool.not_false, List.cons_append, List.nil_append, List.length_map, eq_self, Int.reduceLT, Int.reduceLE, and_self, and_true, true_and, e_comp, get_last, and_self, if_true, e_nn]
          exact ⟨_, _, rfl, (ol.trans (Px.app _ _).ol).trans ol5, ol5.get (get_app hl), _, _, _, rfl⟩
        · simp only [c1, c2, e_var, e_vget, e_c, e_op, e_op1, e_un, e_nil, e_cons, e_cons1, e_cons2, e_a0, e_ka0, e_app, e_app1, e_app2, e_tup, kT1, kT2, kT3, kT4, kT5, kT7, e_lst, kL0, kL1, kL2, kL3, kL4, kL5, e_test, e_ktest, e_and, e_andT, e_andF, e_or, e_orT, e_orF, e_not, e_knot, e_if, e_ifT, e_ifF, e_andv, e_andvT, e_andvF, e_orv, e_orvT, e_orvF, e_notv, e_knotv, e_ch, e_ch1, e_ch2, e_ch3T, e_ch3F, e_cb, e_call, e_make, e_fld, e_kfld, e_setf, e_setf1, e_setf2, e_seq, e_next, e_break, e_cont, e_expr, e_nx, e_ret, e_rt, e_retn, e_ifs, e_ifsT, e_ifsF, e_set, e_kset, e_asg, e_kasg, e_as2, e_gn, e_gtp, e_gto, e_gs0, e_gs1, e_for, e_rng1, e_rng2, e_srca, e_srcr, e_srco, e_srct, e_srcs, e_nop, e_part, e_kpart, e_sl, e_sl1, e_sl2, e_dslt, e_bm, e_kbm, e_bmo, e_add, e_sub, e_own1, e_mull, e_mulr, e_div, e_mod, e_neg, e_lt, e_gt, e_le, e_ge, e_eq, e_ne, e_eqs, e_eqb, e_ixt, e_ixs, e_ixr, e_ixo, e_ixR, at0, at1, at2, at3, at4, at5, at6, e_int, e_intT, e_intF, e_abs, e_min, e_max, e_lent, e_lens, e_lenr, e_leno, e_sumt, e_sumr, e_sumo, e_ftup, e_tupo, e_apnd, e_clr, e_clro, e_gix, e_gi1, e_gi2, e_gi0, e_giB, e_tru, e_trub, e_isi, e_isir, fin_nx, fin_rt, fin_ex, b_bind, b_st, b_nx, b_thn, b_thr, b_thb, b_thc, List.getElem?_cons_zero, List.getElem?_cons_succ, List.set_cons_zero, List.set_cons_succ, decide_true, decide_false, Bool.not_true, Bool.not_false, List.cons_append, List.nil_append, List.length_map, eq_self, Int.reduceLT, Int.reduceLE, and_self, and_true, true_and, e_comp, get_last, and_false, if_false, isint_go, et]
          exact ⟨_, _, rfl, (ol.trans (Px.app _ _).ol).trans ol5, ol5.get (get_app hl), _, _, _, rfl⟩
      · simp only [c1, e_var, e_vget, e_c, e_op, e_op1, e_un, e_nil, e_cons, e_cons1, e_cons2, e_a0, e_ka0, e_app, e_app1, e_app2, e_tup, kT1, kT2, kT3, kT4, kT5, kT7, e_lst, kL0, kL1, kL2, kL3, kL4, kL5, e_test, e_ktest, e_and, e_andT, e_andF, e_or, e_orT, e_orF, e_not, e_knot, e_if, e_ifT, e_ifF, e_andv, e_andvT, e_andvF, e_orv, e_orvT, e_orvF, e_notv, e_knotv, e_ch, e_ch1, e_ch2, e_ch3T, e_ch3F, e_cb, e_call, e_make, e_fld, e_kfld, e_setf, e_setf1, e_setf2, e_seq, e_next, e_break, e_cont, e_expr, e_nx, e_ret, e_rt, e_retn, e_ifs, e_ifsT, e_ifsF, e_set, e_kset, e_asg, e_kasg, e_as2, e_gn, e_gtp, e_gto, e_gs0, e_gs1, e_for, e_rng1, e_rng2, e_srca, e_srcr, e_srco, e_srct, e_srcs, e_nop, e_part, e_kpart, e_sl, e_sl1, e_sl2, e_dslt, e_bm, e_kbm, e_bmo, e_add, e_sub, e_own1, e_mull, e_mulr, e_div, e_mod, e_neg, e_lt, e_gt, e_le, e_ge, e_eq, e_ne, e_eqs, e_eqb, e_ixt, e_ixs, e_ixr, e_ixo, e_ixR, at0, at1, at2, at3, at4, at5, at6, e_int, e_intT, e_intF, e_abs, e_min, e_max, e_lent, e_lens, e_lenr, e_leno, e_sumt, e_sumr, e_sumo, e_ftup, e_tupo, e_apnd, e_clr, e_clro, e_gix, e_gi1, e_gi2, e_gi0, e_giB, e_tru, e_trub, e_isi, e_isir, fin_nx, fin_rt, fin_ex, b_bind, b_st, b_nx, b_thn, b_thr, b_thb, b_thc, List.getElem?_cons_zero, List.getElem?_cons_succ, List.set_cons_zero, List.set_cons_succ, decide_true, decide_false, Bool.not_true, Bool.not_false, List.cons_append, List.nil_append, List.length_map, eq_self, Int.reduceLT, Int.reduceLE, and_self, and_true, true_and, e_comp, get_last, false_and, if_false, isint_go, et]
        exact ⟨_, _, rfl, (ol.trans (Px.app _ _).ol).trans ol5, ol5.get (get_app hl), _, _, _, rfl⟩)
  simp only [Row.D, Key.D] at e1 e2 ef
  simp only [ds, List.map_cons, List.map_nil] at ef
  simp only [m__law_priced, e_var, e_vget, e_c, e_op, e_op1, e_un, e_nil, e_cons, e_cons1, e_cons2, e_a0, e_ka0, e_app, e_app1, e_app2, e_tup, kT1, kT2, kT3, kT4, kT5, kT7, e_lst, kL0, kL1, kL2, kL3, kL4, kL5, e_test, e_ktest, e_and, e_andT, e_andF, e_or, e_orT, e_orF, e_not, e_knot, e_if, e_ifT, e_ifF, e_andv, e_andvT, e_andvF, e_orv, e_orvT, e_orvF, e_notv, e_knotv, e_ch, e_ch1, e_ch2, e_ch3T, e_ch3F, e_cb, e_call, e_make, e_fld, e_kfld, e_setf, e_setf1, e_setf2, e_seq, e_next, e_break, e_cont, e_expr, e_nx, e_ret, e_rt, e_retn, e_ifs, e_ifsT, e_ifsF, e_set, e_kset, e_asg, e_kasg, e_as2, e_gn, e_gtp, e_gto, e_gs0, e_gs1, e_for, e_rng1, e_rng2, e_srca, e_srcr, e_srco, e_srct, e_srcs, e_nop, e_part, e_kpart, e_sl, e_sl1, e_sl2, e_dslt, e_bm, e_kbm, e_bmo, e_add, e_sub, e_own1, e_mull, e_mulr, e_div, e_mod, e_neg, e_lt, e_gt, e_le, e_ge, e_eq, e_ne, e_eqs, e_eqb, e_ixt, e_ixs, e_ixr, e_ixo, e_ixR, at0, at1, at2, at3, at4, at5, at6, e_int, e_intT, e_intF, e_abs, e_min, e_max, e_lent, e_lens, e_lenr, e_leno, e_sumt, e_sumr, e_sumo, e_ftup, e_tupo, e_apnd, e_clr, e_clro, e_gix, e_gi1, e_gi2, e_gi0, e_giB, e_tru, e_trub, e_isi, e_isir, fin_nx, fin_rt, fin_ex, b_bind, b_st, b_nx, b_thn, b_thr, b_thb, b_thc, List.getElem?_cons_zero, List.getElem?_cons_succ, List.set_cons_zero, List.set_cons_succ, decide_true, decide_false, Bool.not_true, Bool.not_false, List.cons_append, List.nil_append, List.length_map, eq_self, Int.reduceLT, Int.reduceLE, and_self, and_true, true_and, e_comp, get_last, Row.D, Key.D, ht, e1, ht1, e2, g1, ol2.get g1, g2, e3, kL12, ef]
  exact ⟨_, rfl, ((ol1.trans ol2).trans px3.ol).trans ol⟩
end
end DL
/-! three places of a row, a measure for two lines -/
namespace DL
open PySem PySem.Spec PyProof.Rows L2
theorem cut3 {a b c d e f g : D} : cutD [a, b, c, d, e, f, g] (some 3) none = [d, e, f, g] := rfl
theorem kA34 {a b c d e f g : D} {hp : DH} : dAdd (.tup [a, b, c]) (.tup [d, e, f, g]) hp = .ok (.tup [a, b, c, d, e, f, g]) hp := e_addt (by simp [sizeLine])
section
variable {r : Row} {s m e : Nat} {k : Key}
theorem both_go (ok : r.OK) (kk : k.OK) {hp : DH} {t : Nat} (h1 : s < m) (h2 : m < e) (h3 : e ≤ r.ws.length) (ht : hp[t]? = some (.lst [.int (s : Int), .int (m : Int), .int (e : Int)])) :
    ∃ hp', run__law_both [r.D, .ref t, k.D] hp = .ok (.bl true) hp' ∧ Ol hp hp' := by
  rw [ent__law_both]
  obtain ⟨b, hp1, e1, x1, p1⟩ := poss_go (hp := hp) ok kk h1 (show m ≤ r.ws.length by omega)
  rcases b with _ | _
  · simp only [m__law_both, e_var, e_vget, e_c, e_op, e_op1, e_un, e_nil, e_cons, e_cons1, e_cons2, e_a0, e_ka0, e_app, e_app1, e_app2, e_tup, kT1, kT2, kT3, kT4, kT5, kT7, e_lst, kL0, kL1, kL2, kL3, kL4, kL5, e_test, e_ktest, e_and, e_andT, e_andF, e_or, e_orT, e_orF, e_not, e_knot, e_if, e_ifT, e_ifF, e_andv, e_andvT, e_andvF, e_orv, e_orvT, e_orvF, e_notv, e_knotv, e_ch, e_ch1, e_ch2, e_ch3T, e_ch3F, e_cb, e_call, e_make, e_fld, e_kfld, e_setf, e_setf1, e_setf2, e_seq, e_next, e_break, e_cont, e_expr, e_nx, e_ret, e_rt, e_retn, e_ifs, e_ifsT, e_ifsF, e_set, e_kset, e_asg, e_kasg, e_as2, e_gn, e_gtp, e_gto, e_gs0, e_gs1, e_for, e_rng1, e_rng2, e_srca, e_srcr, e_srco, e_srct, e_srcs, e_nop, e_part, e_kpart, e_sl, e_sl1, e_sl2, e_dslt, e_bm, e_kbm, e_bmo, e_add, e_sub, e_own1, e_mull, e_mulr, e_div, e_mod, e_neg, e_lt, e_gt, e_le, e_ge, e_eq, e_ne, e_eqs, e_eqb, e_ixt, e_ixs, e_ixr, e_ixo, e_ixR, at0, at1, at2, at3, at4, at5, at6, e_int, e_intT, e_intF, e_abs, e_min, e_max, e_lent, e_lens, e_lenr, e_leno, e_sumt, e_sumr, e_sumo, e_ftup, e_tupo, e_apnd, e_clr, e_clro, e_gix, e_gi1, e_gi2, e_gi0, e_giB, e_tru, e_trub, e_isi, e_isir, fin_nx, fin_rt, fin_ex, b_bind, b_st, b_nx, b_thn, b_thr, b_thb, b_thc, List.getElem?_cons_zero, List.getElem?_cons_succ, List.set_cons_zero, List.set_cons_succ, decide_true, decide_false, Bool.not_true, Bool.not_false, List.cons_append, List.nil_append, List.length_map, eq_self, Int.reduceLT, Int.reduceLE, and_self, and_true, true_and, e_comp, get_last, ht, e1]
    exact ⟨_, rfl, x1.ol⟩
  · obtain ⟨b, hp2, e2, x2, p2⟩ := poss_go (hp := hp1) ok kk h2 h3
    have ht1 := x1.get ht
    rcases b with _ | _
    · simp only [m__law_both, lp__law_both_1, e_var, e_vget, e_c, e_op, e_op1, e_un, e_nil, e_cons, e_cons1, e_cons2, e_a0, e_ka0, e_app, e_app1, e_app2, e_tup, kT1, kT2, kT3, kT4, kT5, kT7, e_lst, kL0, kL1, kL2, kL3, kL4, kL5, e_test, e_ktest, e_and, e_andT, e_andF, e_or, e_orT, e_orF, e_not, e_knot, e_if, e_ifT, e_ifF, e_andv, e_andvT, e_andvF, e_orv, e_orvT, e_orvF, e_notv, e_knotv, e_ch, e_ch1, e_ch2, e_ch3T, e_ch3F, e_cb, e_call, e_make, e_fld, e_kfld, e_setf, e_setf1, e_setf2, e_seq, e_next, e_break, e_cont, e_expr, e_nx, e_ret, e_rt, e_retn, e_ifs, e_ifsT, e_ifsF, e_set, e_kset, e_asg, e_kasg, e_as2, e_gn, e_gtp, e_gto, e_gs0, e_gs1, e_for, e_rng1, e_rng2, e_srca, e_srcr, e_srco, e_srct, e_srcs, e_nop, e_part, e_kpart, e_sl, e_sl1, e_sl2, e_dslt, e_bm, e_kbm, e_bmo, e_add, e_sub, e_own1, e_mull, e_mulr, e_div, e_mod, e_neg, e_lt, e_gt, e_le, e_ge, e_eq, e_ne, e_eqs, e_eqb, e_ixt, e_ixs, e_ixr, e_ixo, e_ixR, at0, at1, at2, at3, at4, at5, at6, e_int, e_intT, e_intF, e_abs, e_min, e_max, e_lent, e_lens, e_lenr, e_leno, e_sumt, e_sumr, e_sumo, e_ftup, e_tupo, e_apnd, e_clr, e_clro, e_gix, e_gi1, e_gi2, e_gi0, e_giB, e_tru, e_trub, e_isi, e_isir, fin_nx, fin_rt, fin_ex, b_bind, b_st, b_nx, b_thn, b_thr, b_thb, b_thc, List.getElem?_cons_zero, List.getElem?_cons_succ, List.set_cons_zero, List.set_cons_succ, decide_true, decide_false, Bool.not_true, Bool.not_false, List.cons_append, List.nil_append, List.length_map, eq_self, Int.reduceLT, Int.reduceLE, and_self, and_true, true_and, e_comp, get_last, ht, e1, ht1, e2]
      exact ⟨_, rfl, (x1.trans x2).ol⟩
    · obtain ⟨hp3, e3, ol3⟩ := priced_go ok kk h1 h2 h3 (p1 rfl) (p2 rfl) (x2.get ht1)
      simp only [m__law_both, lp__law_both_1, lp__law_both_0, e_var, e_vget, e_c, e_op, e_op1, e_un, e_nil, e_cons, e_cons1, e_cons2, e_a0, e_ka0, e_app, e_app1, e_app2, e_tup, kT1, kT2, kT3, kT4, kT5, kT7, e_lst, kL0, kL1, kL2, kL3, kL4, kL5, e_test, e_ktest, e_and, e_andT, e_andF, e_or, e_orT, e_orF, e_not, e_knot, e_if, e_ifT, e_ifF, e_andv, e_andvT, e_andvF, e_orv, e_orvT, e_orvF, e_notv, e_knotv, e_ch, e_ch1, e_ch2, e_ch3T, e_ch3F, e_cb, e_call, e_make, e_fld, e_kfld, e_setf, e_setf1, e_setf2, e_seq, e_next, e_break, e_cont, e_expr, e_nx, e_ret, e_rt, e_retn, e_ifs, e_ifsT, e_ifsF, e_set, e_kset, e_asg, e_kasg, e_as2, e_gn, e_gtp, e_gto, e_gs0, e_gs1, e_for, e_rng1, e_rng2, e_srca, e_srcr, e_srco, e_srct, e_srcs, e_nop, e_part, e_kpart, e_sl, e_sl1, e_sl2, e_dslt, e_bm, e_kbm, e_bmo, e_add, e_sub, e_own1, e_mull, e_mulr, e_div, e_mod, e_neg, e_lt, e_gt, e_le, e_ge, e_eq, e_ne, e_eqs, e_eqb, e_ixt, e_ixs, e_ixr, e_ixo, e_ixR, at0, at1, at2, at3, at4, at5, at6, e_int, e_intT, e_intF, e_abs, e_min, e_max, e_lent, e_lens, e_lenr, e_leno, e_sumt, e_sumr, e_sumo, e_ftup, e_tupo, e_apnd, e_clr, e_clro, e_gix, e_gi1, e_gi2, e_gi0, e_giB, e_tru, e_trub, e_isi, e_isir, fin_nx, fin_rt, fin_ex, b_bind, b_st, b_nx, b_thn, b_thr, b_thb, b_thc, List.getElem?_cons_zero, List.getElem?_cons_succ, List.set_cons_zero, List.set_cons_succ, decide_true, decide_false, Bool.not_true, Bool.not_false, List.cons_append, List.nil_append, List.length_map, eq_self, Int.reduceLT, Int.reduceLE, and_self, and_true, true_and, e_comp, get_last, ht, e1, ht1, e2, e3]
      exact ⟨_, rfl, (x1.trans x2).ol.trans ol3⟩
def Hs (r : Row) : List Nat := ((List.range (r.ws.length - 1)).filter fun i => isH (r.j i)).map (· + 1)
theorem Hs_pw : (Hs r).Pairwise (· < ·) := by
  unfold Hs
  rw [List.pairwise_map]
  exact (List.pairwise_lt_range.filter _).imp (by intro a b h; omega)
theorem Hs_mem {x : Nat} (h : x ∈ Hs r) : 1 ≤ x ∧ x ≤ r.ws.length - 1 := by
  unfold Hs at h
  obtain ⟨i, hi, rfl⟩ := List.mem_map.mp h
  have := List.mem_range.mp (List.mem_filter.mp hi).1
  omega
def tH (r : Row) : D → Bool | .int z => isH (r.j z.toNat) | _ => false
def fH : D → D | .int z => .int (z + 1) | d => d
theorem Hs_eq : ((((List.range (r.ws.length - 1)).map fun i => D.int (0 + (i : Nat))).filter (tH r)).map fH) = (Hs r).map fun (x : Nat) => D.int (x : Int) := by
  unfold Hs
  rw [List.filter_map, List.map_map, List.map_map]
  have h1 : (tH r ∘ fun i : Nat => D.int (0 + (i : Nat))) = fun i => isH (r.j i) := by
    funext i
    simp [tH]
  rw [h1]
  apply List.map_congr_left
  intro i _
  simp [fH]
theorem three_go {p : Nat} {c : Int} {hp : DH} (ok : r.OK) (hn : 2 ≤ r.ws.length) (h : PoolAt hp p c) (hc : c ≤ 2 ^ 40) :
    ∃ (s m e t : Nat) (hp' : DH), run__law_three [.ref p, r.D] hp = .ok (.ref t) hp' ∧ s < m ∧ m < e ∧ e ≤ r.ws.length ∧ hp'[t]? = some (.lst [.int (s : Int), .int (m : Int), .int (e : Int)]) ∧ PoolAt hp' p (c + 10) ∧ Gr p hp hp' ∧ t ≠ p := by
  have hmax := ok.max
  have hlt := h.lt
  rw [ent__law_three]
  have hr := kRng1_ok (hp := hp) (show -4611686018427387904 ≤ (r.ws.length : Int) - 1 ∧ (r.ws.length : Int) - 1 < 4611686018427387904 by omega)
  have hcomp := comp_rng (j := 8) (lo := 0) (n := ((r.ws.length : Int) - 1).toNat) (own := [8]) (t := mTest (mOp dEq (mOp dIx (mOp dIx (mOp dIx (mVar 1) (mC (.int 1))) (mVar 8)) (mC (.int 0))) (mC (.str "hyphen")))) (e := mOp dAdd (mVar 8) (mC (.int 1)))
    (env := [some (.ref p), some r.D, some (.int (r.ws.length : Int)), none, none, none, none, none, none]) (hp := hp) (tH r) fH (by
      intro i hi
      have aj := ok.atj (i := i) (by omega)
      have ht : tH r (.int (0 + (i : Int))) = isH (r.j i) := by simp [tH]
      rw [ht]
      rw [Int.zero_add]
      rcases hj : r.j i with ⟨w, x, l⟩ | ⟨x, b⟩
      · rw [hj] at aj
        simp only [wipeE, e_var, e_vget, e_c, e_op, e_op1, e_un, e_nil, e_cons, e_cons1, e_cons2, e_a0, e_ka0, e_app, e_app1, e_app2, e_tup, kT1, kT2, kT3, kT4, kT5, kT7, e_lst, kL0, kL1, kL2, kL3, kL4, kL5, e_test, e_ktest, e_and, e_andT, e_andF, e_or, e_orT, e_orF, e_not, e_knot, e_if, e_ifT, e_ifF, e_andv, e_andvT, e_andvF, e_orv, e_orvT, e_orvF, e_notv, e_knotv, e_ch, e_ch1, e_ch2, e_ch3T, e_ch3F, e_cb, e_call, e_make, e_fld, e_kfld, e_setf, e_setf1, e_setf2, e_seq, e_next, e_break, e_cont, e_expr, e_nx, e_ret, e_rt, e_retn, e_ifs, e_ifsT, e_ifsF, e_set, e_kset, e_asg, e_kasg, e_as2, e_gn, e_gtp, e_gto, e_gs0, e_gs1, e_for, e_rng1, e_rng2, e_srca, e_srcr, e_srco, e_srct, e_srcs, e_nop, e_part, e_kpart, e_sl, e_sl1, e_sl2, e_dslt, e_bm, e_kbm, e_bmo, e_add, e_sub, e_own1, e_mull, e_mulr, e_div, e_mod, e_neg, e_lt, e_gt, e_le, e_ge, e_eq, e_ne, e_eqs, e_eqb, e_ixt, e_ixs, e_ixr, e_ixo, e_ixR, at0, at1, at2, at3, at4, at5, at6, e_int, e_intT, e_intF, e_abs, e_min, e_max, e_lent, e_lens, e_lenr, e_leno, e_sumt, e_sumr, e_sumo, e_ftup, e_tupo, e_apnd, e_clr, e_clro, e_gix, e_gi1, e_gi2, e_gi0, e_giB, e_tru, e_trub, e_isi, e_isir, fin_nx, fin_rt, fin_ex, b_bind, b_st, b_nx, b_thn, b_thr, b_thb, b_thc, List.getElem?_cons_zero, List.getElem?_cons_succ, List.set_cons_zero, List.set_cons_succ, decide_true, decide_false, Bool.not_true, Bool.not_false, List.cons_append, List.nil_append, List.length_map, eq_self, Int.reduceLT, Int.reduceLE, and_self, and_true, true_and, e_comp, get_last, Row.D, aj, Jt.D, s_gh, isH]
      · rw [hj] at aj
        simp only [wipeE, e_var, e_vget, e_c, e_op, e_op1, e_un, e_nil, e_cons, e_cons1, e_cons2, e_a0, e_ka0, e_app, e_app1, e_app2, e_tup, kT1, kT2, kT3, kT4, kT5, kT7, e_lst, kL0, kL1, kL2, kL3, kL4, kL5, e_test, e_ktest, e_and, e_andT, e_andF, e_or, e_orT, e_orF, e_not, e_knot, e_if, e_ifT, e_ifF, e_andv, e_andvT, e_andvF, e_orv, e_orvT, e_orvF, e_notv, e_knotv, e_ch, e_ch1, e_ch2, e_ch3T, e_ch3F, e_cb, e_call, e_make, e_fld, e_kfld, e_setf, e_setf1, e_setf2, e_seq, e_next, e_break, e_cont, e_expr, e_nx, e_ret, e_rt, e_retn, e_ifs, e_ifsT, e_ifsF, e_set, e_kset, e_asg, e_kasg, e_as2, e_gn, e_gtp, e_gto, e_gs0, e_gs1, e_for, e_rng1, e_rng2, e_srca, e_srcr, e_srco, e_srct, e_srcs, e_nop, e_part, e_kpart, e_sl, e_sl1, e_sl2, e_dslt, e_bm, e_kbm, e_bmo, e_add, e_sub, e_own1, e_mull, e_mulr, e_div, e_mod, e_neg, e_lt, e_gt, e_le, e_ge, e_eq, e_ne, e_eqs, e_eqb, e_ixt, e_ixs, e_ixr, e_ixo, e_ixR, at0, at1, at2, at3, at4, at5, at6, e_int, e_intT, e_intF, e_abs, e_min, e_max, e_lent, e_lens, e_lenr, e_leno, e_sumt, e_sumr, e_sumo, e_ftup, e_tupo, e_apnd, e_clr, e_clro, e_gix, e_gi1, e_gi2, e_gi0, e_giB, e_tru, e_trub, e_isi, e_isir, fin_nx, fin_rt, fin_ex, b_bind, b_st, b_nx, b_thn, b_thr, b_thb, b_thc, List.getElem?_cons_zero, List.getElem?_cons_succ, List.set_cons_zero, List.set_cons_succ, decide_true, decide_false, Bool.not_true, Bool.not_false, List.cons_append, List.nil_append, List.length_map, eq_self, Int.reduceLT, Int.reduceLE, and_self, and_true, true_and, e_comp, get_last, Row.D, aj, Jt.D, s_hh, isH]) (by
      intro i hi _
      simp only [wipeE, e_var, e_vget, e_c, e_op, e_op1, e_un, e_nil, e_cons, e_cons1, e_cons2, e_a0, e_ka0, e_app, e_app1, e_app2, e_tup, kT1, kT2, kT3, kT4, kT5, kT7, e_lst, kL0, kL1, kL2, kL3, kL4, kL5, e_test, e_ktest, e_and, e_andT, e_andF, e_or, e_orT, e_orF, e_not, e_knot, e_if, e_ifT, e_ifF, e_andv, e_andvT, e_andvF, e_orv, e_orvT, e_orvF, e_notv, e_knotv, e_ch, e_ch1, e_ch2, e_ch3T, e_ch3F, e_cb, e_call, e_make, e_fld, e_kfld, e_setf, e_setf1, e_setf2, e_seq, e_next, e_break, e_cont, e_expr, e_nx, e_ret, e_rt, e_retn, e_ifs, e_ifsT, e_ifsF, e_set, e_kset, e_asg, e_kasg, e_as2, e_gn, e_gtp, e_gto, e_gs0, e_gs1, e_for, e_rng1, e_rng2, e_srca, e_srcr, e_srco, e_srct, e_srcs, e_nop, e_part, e_kpart, e_sl, e_sl1, e_sl2, e_dslt, e_bm, e_kbm, e_bmo, e_add, e_sub, e_own1, e_mull, e_mulr, e_div, e_mod, e_neg, e_lt, e_gt, e_le, e_ge, e_eq, e_ne, e_eqs, e_eqb, e_ixt, e_ixs, e_ixr, e_ixo, e_ixR, at0, at1, at2, at3, at4, at5, at6, e_int, e_intT, e_intF, e_abs, e_min, e_max, e_lent, e_lens, e_lenr, e_leno, e_sumt, e_sumr, e_sumo, e_ftup, e_tupo, e_apnd, e_clr, e_clro, e_gix, e_gi1, e_gi2, e_gi0, e_giB, e_tru, e_trub, e_isi, e_isir, fin_nx, fin_rt, fin_ex, b_bind, b_st, b_nx, b_thn, b_thr, b_thb, b_thc, List.getElem?_cons_zero, List.getElem?_cons_succ, List.set_cons_zero, List.set_cons_succ, decide_true, decide_false, Bool.not_true, Bool.not_false, List.cons_append, List.nil_append, List.length_map, eq_self, Int.reduceLT, Int.reduceLE, and_self, and_true, true_and, e_comp, get_last, fH]) (by simp [sizeLine]; omega)
  rw [show ((r.ws.length : Int) - 1).toNat = r.ws.length - 1 by omega, Hs_eq] at hcomp
  have h0 := h.app (e := [DO.lst ((Hs r).map fun (x : Nat) => D.int (x : Int))])
  obtain ⟨v, hp1, e1, v1, v2, q1, g1, _⟩ := take_go h0 (m := 3) (by omega) (by omega) (by omega)
  have hH := g1.get (n := hp.length) get_last (by omega)
  have gg1 : Gr p hp hp1 := (Px.app _ _).gr.trans g1
  have tail : ∃ (s m e t : Nat) (hp' : DH), fin (lp__law_three_0 [some (.ref p), some r.D, some (.int (r.ws.length : Int)), some (.ref hp.length), none, none, none, none, none] hp1) = .ok (.ref t) hp' ∧ s < m ∧ m < e ∧ e ≤ r.ws.length ∧ hp'[t]? = some (.lst [.int (s : Int), .int (m : Int), .int (e : Int)]) ∧ PoolAt hp' p (c + 10) ∧ Gr p hp hp' ∧ t ≠ p := by
    obtain ⟨a, hp2, e2, a1, a2, q2, g2, _⟩ := take_go q1 (m := (r.ws.length : Int) - 1) (by omega) (by omega) (by omega)
    obtain ⟨b, hp3, e3, b1, b2, q3, g3, _⟩ := take_go q2 (m := (r.ws.length : Int) - 1 - a) (by omega) (by omega) (by omega)
    obtain ⟨d, hp4, e4, d1, d2, q4, g4, _⟩ := take_go q3 (m := (r.ws.length : Int) - (a + 1 + b)) (by omega) (by omega) (by omega)
    obtain ⟨s, rfl⟩ := Int.eq_ofNat_of_zero_le a1
    obtain ⟨m, hm⟩ := Int.eq_ofNat_of_zero_le (show 0 ≤ (s : Int) + 1 + b by omega)
    obtain ⟨e, he⟩ := Int.eq_ofNat_of_zero_le (show 0 ≤ (s : Int) + 1 + b + 1 + d by omega)
    rw [hm] at e4 he
    have hlt4 := q4.lt
    simp only [lp__law_three_0, e_var, e_vget, e_c, e_op, e_op1, e_un, e_nil, e_cons, e_cons1, e_cons2, e_a0, e_ka0, e_app, e_app1, e_app2, e_tup, kT1, kT2, kT3, kT4, kT5, kT7, e_lst, kL0, kL1, kL2, kL3, kL4, kL5, e_test, e_ktest, e_and, e_andT, e_andF, e_or, e_orT, e_orF, e_not, e_knot, e_if, e_ifT, e_ifF, e_andv, e_andvT, e_andvF, e_orv, e_orvT, e_orvF, e_notv, e_knotv, e_ch, e_ch1, e_ch2, e_ch3T, e_ch3F, e_cb, e_call, e_make, e_fld, e_kfld, e_setf, e_setf1, e_setf2, e_seq, e_next, e_break, e_cont, e_expr, e_nx, e_ret, e_rt, e_retn, e_ifs, e_ifsT, e_ifsF, e_set, e_kset, e_asg, e_kasg, e_as2, e_gn, e_gtp, e_gto, e_gs0, e_gs1, e_for, e_rng1, e_rng2, e_srca, e_srcr, e_srco, e_srct, e_srcs, e_nop, e_part, e_kpart, e_sl, e_sl1, e_sl2, e_dslt, e_bm, e_kbm, e_bmo, e_add, e_sub, e_own1, e_mull, e_mulr, e_div, e_mod, e_neg, e_lt, e_gt, e_le, e_ge, e_eq, e_ne, e_eqs, e_eqb, e_ixt, e_ixs, e_ixr, e_ixo, e_ixR, at0, at1, at2, at3, at4, at5, at6, e_int, e_intT, e_intF, e_abs, e_min, e_max, e_lent, e_lens, e_lenr, e_leno, e_sumt, e_sumr, e_sumo, e_ftup, e_tupo, e_apnd, e_clr, e_clro, e_gix, e_gi1, e_gi2, e_gi0, e_giB, e_tru, e_trub, e_isi, e_isir, fin_nx, fin_rt, fin_ex, b_bind, b_st, b_nx, b_thn, b_thr, b_thb, b_thc, List.getElem?_cons_zero, List.getElem?_cons_succ, List.set_cons_zero, List.set_cons_succ, decide_true, decide_false, Bool.not_true, Bool.not_false, List.cons_append, List.nil_append, List.length_map, eq_self, Int.reduceLT, Int.reduceLE, and_self, and_true, true_and, e_comp, get_last, e2, e3, hm, e4, he]
    exact ⟨s, m, e, _, _, rfl, by omega, by omega, by omega, get_last, q4.app.le (by omega), gg1.trans (g2.trans (g3.trans (g4.trans (Px.app _ _).gr))), by omega⟩
  have hlenH : ((Hs r).map fun (x : Nat) => D.int (x : Int)).length = (Hs r).length := by simp
  have hHl : (Hs r).length ≤ 40 := by
    unfold Hs
    rw [List.length_map]
    have := List.length_filter_le (fun i => isH (r.j i)) (List.range (r.ws.length - 1))
    simp at this
    omega
  simp only [Row.D] at hcomp tail
  simp only [m__law_three, e_var, e_vget, e_c, e_op, e_op1, e_un, e_nil, e_cons, e_cons1, e_cons2, e_a0, e_ka0, e_app, e_app1, e_app2, e_tup, kT1, kT2, kT3, kT4, kT5, kT7, e_lst, kL0, kL1, kL2, kL3, kL4, kL5, e_test, e_ktest, e_and, e_andT, e_andF, e_or, e_orT, e_orF, e_not, e_knot, e_if, e_ifT, e_ifF, e_andv, e_andvT, e_andvF, e_orv, e_orvT, e_orvF, e_notv, e_knotv, e_ch, e_ch1, e_ch2, e_ch3T, e_ch3F, e_cb, e_call, e_make, e_fld, e_kfld, e_setf, e_setf1, e_setf2, e_seq, e_next, e_break, e_cont, e_expr, e_nx, e_ret, e_rt, e_retn, e_ifs, e_ifsT, e_ifsF, e_set, e_kset, e_asg, e_kasg, e_as2, e_gn, e_gtp, e_gto, e_gs0, e_gs1, e_for, e_rng1, e_rng2, e_srca, e_srcr, e_srco, e_srct, e_srcs, e_nop, e_part, e_kpart, e_sl, e_sl1, e_sl2, e_dslt, e_bm, e_kbm, e_bmo, e_add, e_sub, e_own1, e_mull, e_mulr, e_div, e_mod, e_neg, e_lt, e_gt, e_le, e_ge, e_eq, e_ne, e_eqs, e_eqb, e_ixt, e_ixs, e_ixr, e_ixo, e_ixR, at0, at1, at2, at3, at4, at5, at6, e_int, e_intT, e_intF, e_abs, e_min, e_max, e_lent, e_lens, e_lenr, e_leno, e_sumt, e_sumr, e_sumo, e_ftup, e_tupo, e_apnd, e_clr, e_clro, e_gix, e_gi1, e_gi2, e_gi0, e_giB, e_tru, e_trub, e_isi, e_isir, fin_nx, fin_rt, fin_ex, b_bind, b_st, b_nx, b_thn, b_thr, b_thb, b_thc, List.getElem?_cons_zero, List.getElem?_cons_succ, List.set_cons_zero, List.set_cons_succ, decide_true, decide_false, Bool.not_true, Bool.not_false, List.cons_append, List.nil_append, List.length_map, eq_self, Int.reduceLT, Int.reduceLE, and_self, and_true, true_and, e_comp, get_last, Row.D, hr, show ((r.ws.length : Int) - 1).toNat = r.ws.length - 1 by omega, hcomp, e1]
  by_cases c1 : v = 0
  · simp only [c1, e_var, e_vget, e_c, e_op, e_op1, e_un, e_nil, e_cons, e_cons1, e_cons2, e_a0, e_ka0, e_app, e_app1, e_app2, e_tup, kT1, kT2, kT3, kT4, kT5, kT7, e_lst, kL0, kL1, kL2, kL3, kL4, kL5, e_test, e_ktest, e_and, e_andT, e_andF, e_or, e_orT, e_orF, e_not, e_knot, e_if, e_ifT, e_ifF, e_andv, e_andvT, e_andvF, e_orv, e_orvT, e_orvF, e_notv, e_knotv, e_ch, e_ch1, e_ch2, e_ch3T, e_ch3F, e_cb, e_call, e_make, e_fld, e_kfld, e_setf, e_setf1, e_setf2, e_seq, e_next, e_break, e_cont, e_expr, e_nx, e_ret, e_rt, e_retn, e_ifs, e_ifsT, e_ifsF, e_set, e_kset, e_asg, e_kasg, e_as2, e_gn, e_gtp, e_gto, e_gs0, e_gs1, e_for, e_rng1, e_rng2, e_srca, e_srcr, e_srco, e_srct, e_srcs, e_nop, e_part, e_kpart, e_sl, e_sl1, e_sl2, e_dslt, e_bm, e_kbm, e_bmo, e_add, e_sub, e_own1, e_mull, e_mulr, e_div, e_mod, e_neg, e_lt, e_gt, e_le, e_ge, e_eq, e_ne, e_eqs, e_eqb, e_ixt, e_ixs, e_ixr, e_ixo, e_ixR, at0, at1, at2, at3, at4, at5, at6, e_int, e_intT, e_intF, e_abs, e_min, e_max, e_lent, e_lens, e_lenr, e_leno, e_sumt, e_sumr, e_sumo, e_ftup, e_tupo, e_apnd, e_clr, e_clro, e_gix, e_gi1, e_gi2, e_gi0, e_giB, e_tru, e_trub, e_isi, e_isir, fin_nx, fin_rt, fin_ex, b_bind, b_st, b_nx, b_thn, b_thr, b_thb, b_thc, List.getElem?_cons_zero, List.getElem?_cons_succ, List.set_cons_zero, List.set_cons_succ, decide_true, decide_false, Bool.not_true, Bool.not_false, List.cons_append, List.nil_append, List.length_map, eq_self, Int.reduceLT, Int.reduceLE, and_self, and_true, true_and, e_comp, get_last, hH]
    by_cases c2 : (1 : Int) < ((Hs r).length : Int)
    · obtain ⟨a, hp2, e2, a1, a2, q2, g2, _⟩ := take_go q1 (m := ((Hs r).length : Int) - 1) (by omega) (by omega) (by omega)
      have hH2 := g2.get hH (by omega)
      obtain ⟨b, hp3, e3, b1, b2, q3, g3, _⟩ := take_go q2 (m := ((Hs r).length : Int) - 1 - a) (by omega) (by omega) (by omega)
      have hH3 := g3.get hH2 (by omega)
      obtain ⟨x, rfl⟩ := Int.eq_ofNat_of_zero_le a1
      obtain ⟨y, hy⟩ := Int.eq_ofNat_of_zero_le (show 0 ≤ (x : Int) + 1 + b by omega)
      have hx : x < (Hs r).length := by omega
      have hy2 : y < (Hs r).length := by omega
      have m1 := Hs_mem (List.getElem_mem hx)
      have m2 := Hs_mem (List.getElem_mem hy2)
      have hxy := List.pairwise_iff_getElem.mp (Hs_pw (r := r)) x y hx hy2 (by omega)
      obtain ⟨d, hp4, e4, d1, d2, q4, g4, _⟩ := take_go q3 (m := ((Hs r)[x] : Int)) (by omega) (by omega) (by omega)
      have hH4 := g4.get hH3 (by omega)
      have i1 : atI ((Hs r).map fun (x : Nat) => D.int (x : Int)) (x : Int) = some (.int ((Hs r)[x] : Int)) := by
        rw [atN (by simpa using hx)]; simp [hx]
      have i2 : atI ((Hs r).map fun (x : Nat) => D.int (x : Int)) (y : Int) = some (.int ((Hs r)[y] : Int)) := by
        rw [atN (by simpa using hy2)]; simp [hy2]
      obtain ⟨s, rfl⟩ := Int.eq_ofNat_of_zero_le d1
      have hlt4 := q4.lt
      simp only [c2, e_var, e_vget, e_c, e_op, e_op1, e_un, e_nil, e_cons, e_cons1, e_cons2, e_a0, e_ka0, e_app, e_app1, e_app2, e_tup, kT1, kT2, kT3, kT4, kT5, kT7, e_lst, kL0, kL1, kL2, kL3, kL4, kL5, e_test, e_ktest, e_and, e_andT, e_andF, e_or, e_orT, e_orF, e_not, e_knot, e_if, e_ifT, e_ifF, e_andv, e_andvT, e_andvF, e_orv, e_orvT, e_orvF, e_notv, e_knotv, e_ch, e_ch1, e_ch2, e_ch3T, e_ch3F, e_cb, e_call, e_make, e_fld, e_kfld, e_setf, e_setf1, e_setf2, e_seq, e_next, e_break, e_cont, e_expr, e_nx, e_ret, e_rt, e_retn, e_ifs, e_ifsT, e_ifsF, e_set, e_kset, e_asg, e_kasg, e_as2, e_gn, e_gtp, e_gto, e_gs0, e_gs1, e_for, e_rng1, e_rng2, e_srca, e_srcr, e_srco, e_srct, e_srcs, e_nop, e_part, e_kpart, e_sl, e_sl1, e_sl2, e_dslt, e_bm, e_kbm, e_bmo, e_add, e_sub, e_own1, e_mull, e_mulr, e_div, e_mod, e_neg, e_lt, e_gt, e_le, e_ge, e_eq, e_ne, e_eqs, e_eqb, e_ixt, e_ixs, e_ixr, e_ixo, e_ixR, at0, at1, at2, at3, at4, at5, at6, e_int, e_intT, e_intF, e_abs, e_min, e_max, e_lent, e_lens, e_lenr, e_leno, e_sumt, e_sumr, e_sumo, e_ftup, e_tupo, e_apnd, e_clr, e_clro, e_gix, e_gi1, e_gi2, e_gi0, e_giB, e_tru, e_trub, e_isi, e_isir, fin_nx, fin_rt, fin_ex, b_bind, b_st, b_nx, b_thn, b_thr, b_thb, b_thc, List.getElem?_cons_zero, List.getElem?_cons_succ, List.set_cons_zero, List.set_cons_succ, decide_true, decide_false, Bool.not_true, Bool.not_false, List.cons_append, List.nil_append, List.length_map, eq_self, Int.reduceLT, Int.reduceLE, and_self, and_true, true_and, e_comp, get_last, hH, e2, hH2, e3, hy, hH3, i1, e4, hH4, i2]
      exact ⟨s, (Hs r)[x], (Hs r)[y], _, _, rfl, by omega, by omega, by omega, get_last, q4.app.le (by omega), gg1.trans (g2.trans (g3.trans (g4.trans (Px.app _ _).gr))), by omega⟩
    · simp only [c2, e_var, e_vget, e_c, e_op, e_op1, e_un, e_nil, e_cons, e_cons1, e_cons2, e_a0, e_ka0, e_app, e_app1, e_app2, e_tup, kT1, kT2, kT3, kT4, kT5, kT7, e_lst, kL0, kL1, kL2, kL3, kL4, kL5, e_test, e_ktest, e_and, e_andT, e_andF, e_or, e_orT, e_orF, e_not, e_knot, e_if, e_ifT, e_ifF, e_andv, e_andvT, e_andvF, e_orv, e_orvT, e_orvF, e_notv, e_knotv, e_ch, e_ch1, e_ch2, e_ch3T, e_ch3F, e_cb, e_call, e_make, e_fld, e_kfld, e_setf, e_setf1, e_setf2, e_seq, e_next, e_break, e_cont, e_expr, e_nx, e_ret, e_rt, e_retn, e_ifs, e_ifsT, e_ifsF, e_set, e_kset, e_asg, e_kasg, e_as2, e_gn, e_gtp, e_gto, e_gs0, e_gs1, e_for, e_rng1, e_rng2, e_srca, e_srcr, e_srco, e_srct, e_srcs, e_nop, e_part, e_kpart, e_sl, e_sl1, e_sl2, e_dslt, e_bm, e_kbm, e_bmo, e_add, e_sub, e_own1, e_mull, e_mulr, e_div, e_mod, e_neg, e_lt, e_gt, e_le, e_ge, e_eq, e_ne, e_eqs, e_eqb, e_ixt, e_ixs, e_ixr, e_ixo, e_ixR, at0, at1, at2, at3, at4, at5, at6, e_int, e_intT, e_intF, e_abs, e_min, e_max, e_lent, e_lens, e_lenr, e_leno, e_sumt, e_sumr, e_sumo, e_ftup, e_tupo, e_apnd, e_clr, e_clro, e_gix, e_gi1, e_gi2, e_gi0, e_giB, e_tru, e_trub, e_isi, e_isir, fin_nx, fin_rt, fin_ex, b_bind, b_st, b_nx, b_thn, b_thr, b_thb, b_thc, List.getElem?_cons_zero, List.getElem?_cons_succ, List.set_cons_zero, List.set_cons_succ, decide_true, decide_false, Bool.not_true, Bool.not_false, List.cons_append, List.nil_append, List.length_map, eq_self, Int.reduceLT, Int.reduceLE, and_self, and_true, true_and, e_comp, get_last]
      exact tail
  · simp only [c1, e_var, e_vget, e_c, e_op, e_op1, e_un, e_nil, e_cons, e_cons1, e_cons2, e_a0, e_ka0, e_app, e_app1, e_app2, e_tup, kT1, kT2, kT3, kT4, kT5, kT7, e_lst, kL0, kL1, kL2, kL3, kL4, kL5, e_test, e_ktest, e_and, e_andT, e_andF, e_or, e_orT, e_orF, e_not, e_knot, e_if, e_ifT, e_ifF, e_andv, e_andvT, e_andvF, e_orv, e_orvT, e_orvF, e_notv, e_knotv, e_ch, e_ch1, e_ch2, e_ch3T, e_ch3F, e_cb, e_call, e_make, e_fld, e_kfld, e_setf, e_setf1, e_setf2, e_seq, e_next, e_break, e_cont, e_expr, e_nx, e_ret, e_rt, e_retn, e_ifs, e_ifsT, e_ifsF, e_set, e_kset, e_asg, e_kasg, e_as2, e_gn, e_gtp, e_gto, e_gs0, e_gs1, e_for, e_rng1, e_rng2, e_srca, e_srcr, e_srco, e_srct, e_srcs, e_nop, e_part, e_kpart, e_sl, e_sl1, e_sl2, e_dslt, e_bm, e_kbm, e_bmo, e_add, e_sub, e_own1, e_mull, e_mulr, e_div, e_mod, e_neg, e_lt, e_gt, e_le, e_ge, e_eq, e_ne, e_eqs, e_eqb, e_ixt, e_ixs, e_ixr, e_ixo, e_ixR, at0, at1, at2, at3, at4, at5, at6, e_int, e_intT, e_intF, e_abs, e_min, e_max, e_lent, e_lens, e_lenr, e_leno, e_sumt, e_sumr, e_sumo, e_ftup, e_tupo, e_apnd, e_clr, e_clro, e_gix, e_gi1, e_gi2, e_gi0, e_giB, e_tru, e_trub, e_isi, e_isir, fin_nx, fin_rt, fin_ex, b_bind, b_st, b_nx, b_thn, b_thr, b_thb, b_thc, List.getElem?_cons_zero, List.getElem?_cons_succ, List.set_cons_zero, List.set_cons_succ, decide_true, decide_false, Bool.not_true, Bool.not_false, List.cons_append, List.nil_append, List.length_map, eq_self, Int.reduceLT, Int.reduceLE, and_self, and_true, true_and, e_comp, get_last]
    exact tail
theorem shared_go {p t : Nat} {c : Int} {hp : DH} (ok : r.OK) (kk : k.OK) (h1 : s < m) (h2 : m < e) (h3 : e ≤ r.ws.length) (ht : hp[t]? = some (.lst [.int (s : Int), .int (m : Int), .int (e : Int)])) (h : PoolAt hp p c) (hc : c ≤ 2 ^ 40) :
    ∃ (k2 : Key) (hp' : DH), run__law_shared [.ref p, r.D, .ref t, k.D] hp = .ok k2.D hp' ∧ k2.OK ∧ PoolAt hp' p (c + 5) ∧ Gr p hp hp' := by
  have hlt := h.lt
  have u1 := gM_b ok h1 (show m ≤ r.ws.length by omega)
  have u2 := gL_b ok h1 (show m ≤ r.ws.length by omega)
  have w1 := gM_b ok h2 h3
  have x1 := mulb kk.l0 (by have := kk.l1; omega) u1.1 u1.2
  have x2 := mulb kk.l0 (by have := kk.l1; omega) w1.1 w1.2
  have q1 : ∀ x hp, dMul (.int k.ls) (.int x) hp = .ok (.int (k.ls * x)) hp := fun x hp => e_mull (by have := kk.l0; have := kk.l1; omega)
  generalize hU : [D.int (gW r s m), .int (gM r s m), .int (gL r s m)] = U
  generalize hV : [D.int (gW r m e), .int (gM r m e), .int (gL r m e)] = V
  have eU := glue_go ok h1 (show m ≤ r.ws.length by omega) (hp := hp)
  have eV := glue_go ok h2 h3 (hp := hp ++ [.lst U])
  rw [hU] at eU
  rw [hV] at eV
  have ht1 := get_app (e := [.lst U]) ht
  have ht2 := get_app (e := [.lst V]) ht1
  have gU : ((hp ++ [DO.lst U]) ++ [DO.lst V])[hp.length]? = some (.lst U) := get_app get_last
  have pp := (h.app (e := [.lst U])).app (e := [.lst V])
  have gg : Gr p hp ((hp ++ [DO.lst U]) ++ [DO.lst V]) := ((Px.app _ _).trans (Px.app _ _)).gr
  have iU0 : atI U 0 = some (.int (gW r s m)) := by rw [← hU]; exact at0
  have iU1 : atI U 1 = some (.int (gM r s m)) := by rw [← hU]; exact at1
  have iU2 : atI U 2 = some (.int (gL r s m)) := by rw [← hU]; exact at2
  have iV0 : atI V 0 = some (.int (gW r m e)) := by rw [← hV]; exact at0
  have iV1 : atI V 1 = some (.int (gM r m e)) := by rw [← hV]; exact at1
  have iV2 : atI V 2 = some (.int (gL r m e)) := by rw [← hV]; exact at2
  generalize hbg : k.ind * (if (s : Int) = 0 then 1 else 0) = bg
  generalize hls : max (gW r s m - gL r s m + bg) (gW r m e - gL r m e) = least
  have tail : ∀ reach : Int, reach ≤ gW r s m + k.ls * gM r s m + bg → ∃ (k2 : Key) (hp' : DH), fin (lp__law_shared_1 [some (.ref p), some r.D, some (.ref t), some k.D, some (.ref hp.length), some (.ref (hp ++ [DO.lst U]).length), some (.int bg), some (.int least), some (.int reach), none, none] ((hp ++ [DO.lst U]) ++ [DO.lst V])) = .ok k2.D hp' ∧ k2.OK ∧ PoolAt hp' p (c + 5) ∧ Gr p hp hp' := by
    intro reach hre
    have t0 : ∃ (k2 : Key) (hp' : DH), fin (lp__law_shared_0 [some (.ref p), some r.D, some (.ref t), some k.D, some (.ref hp.length), some (.ref (hp ++ [DO.lst U]).length), some (.int bg), some (.int least), some (.int reach), none, none] ((hp ++ [DO.lst U]) ++ [DO.lst V])) = .ok k2.D hp' ∧ k2.OK ∧ PoolAt hp' p (c + 5) ∧ Gr p hp hp' := by
      obtain ⟨v, hp1, e1, v1, v2, p1, g1, _⟩ := take_go (pp.app (e := [.lst [.int 40, .int 10500]])) (m := 8) (by omega) (by omega) (by omega)
      have al := g1.get (n := ((hp ++ [DO.lst U]) ++ [DO.lst V]).length) get_last (by simp; omega)
      obtain ⟨mo, im, im1, im2⟩ : ∃ m, atI [D.int 40, D.int 10500] (if v = 7 then 1 else 0) = some (.int m) ∧ 1 ≤ m ∧ m ≤ 10500 := by
        by_cases h : v = 7
        · rw [if_pos h]; exact ⟨_, at1, by omega, by omega⟩
        · rw [if_neg h]; exact ⟨_, at0, by omega, by omega⟩
      obtain ⟨u, hp2, e2, y1, y2, p2, g2, _⟩ := take_go p1 (m := mo) (by omega) (by omega) (by omega)
      simp only [lp__law_shared_0, e_var, e_vget, e_c, e_op, e_op1, e_un, e_nil, e_cons, e_cons1, e_cons2, e_a0, e_ka0, e_app, e_app1, e_app2, e_tup, kT1, kT2, kT3, kT4, kT5, kT7, e_lst, kL0, kL1, kL2, kL3, kL4, kL5, e_test, e_ktest, e_and, e_andT, e_andF, e_or, e_orT, e_orF, e_not, e_knot, e_if, e_ifT, e_ifF, e_andv, e_andvT, e_andvF, e_orv, e_orvT, e_orvF, e_notv, e_knotv, e_ch, e_ch1, e_ch2, e_ch3T, e_ch3F, e_cb, e_call, e_make, e_fld, e_kfld, e_setf, e_setf1, e_setf2, e_seq, e_next, e_break, e_cont, e_expr, e_nx, e_ret, e_rt, e_retn, e_ifs, e_ifsT, e_ifsF, e_set, e_kset, e_asg, e_kasg, e_as2, e_gn, e_gtp, e_gto, e_gs0, e_gs1, e_for, e_rng1, e_rng2, e_srca, e_srcr, e_srco, e_srct, e_srcs, e_nop, e_part, e_kpart, e_sl, e_sl1, e_sl2, e_dslt, e_bm, e_kbm, e_bmo, e_add, e_sub, e_own1, e_mull, e_mulr, e_div, e_mod, e_neg, e_lt, e_gt, e_le, e_ge, e_eq, e_ne, e_eqs, e_eqb, e_ixt, e_ixs, e_ixr, e_ixo, e_ixR, at0, at1, at2, at3, at4, at5, at6, e_int, e_intT, e_intF, e_abs, e_min, e_max, e_lent, e_lens, e_lenr, e_leno, e_sumt, e_sumr, e_sumo, e_ftup, e_tupo, e_apnd, e_clr, e_clro, e_gix, e_gi1, e_gi2, e_gi0, e_giB, e_tru, e_trub, e_isi, e_isir, fin_nx, fin_rt, fin_ex, b_bind, b_st, b_nx, b_thn, b_thr, b_thb, b_thc, List.getElem?_cons_zero, List.getElem?_cons_succ, List.set_cons_zero, List.set_cons_succ, decide_true, decide_false, Bool.not_true, Bool.not_false, List.cons_append, List.nil_append, List.length_map, eq_self, Int.reduceLT, Int.reduceLE, and_self, and_true, true_and, e_comp, get_last, gU, iU0, iV0, e1, al, e_i01, im, e2, Key.D, cut3, kA34]
      exact ⟨⟨_, k.ind, false, k.hy, k.tw, k.rv, k.ls⟩, _, rfl, ⟨kk.i0, kk.i1, kk.h0, kk.h1, kk.t0, kk.t1, kk.r0, kk.r1, kk.l0, kk.l1⟩, p2.le (by omega), gg.trans ((Px.app _ _).gr.trans (g1.trans g2))⟩
    simp only [Key.D, Row.D] at t0
    simp only [lp__law_shared_1, e_var, e_vget, e_c, e_op, e_op1, e_un, e_nil, e_cons, e_cons1, e_cons2, e_a0, e_ka0, e_app, e_app1, e_app2, e_tup, kT1, kT2, kT3, kT4, kT5, kT7, e_lst, kL0, kL1, kL2, kL3, kL4, kL5, e_test, e_ktest, e_and, e_andT, e_andF, e_or, e_orT, e_orF, e_not, e_knot, e_if, e_ifT, e_ifF, e_andv, e_andvT, e_andvF, e_orv, e_orvT, e_orvF, e_notv, e_knotv, e_ch, e_ch1, e_ch2, e_ch3T, e_ch3F, e_cb, e_call, e_make, e_fld, e_kfld, e_setf, e_setf1, e_setf2, e_seq, e_next, e_break, e_cont, e_expr, e_nx, e_ret, e_rt, e_retn, e_ifs, e_ifsT, e_ifsF, e_set, e_kset, e_asg, e_kasg, e_as2, e_gn, e_gtp, e_gto, e_gs0, e_gs1, e_for, e_rng1, e_rng2, e_srca, e_srcr, e_srco, e_srct, e_srcs, e_nop, e_part, e_kpart, e_sl, e_sl1, e_sl2, e_dslt, e_bm, e_kbm, e_bmo, e_add, e_sub, e_own1, e_mull, e_mulr, e_div, e_mod, e_neg, e_lt, e_gt, e_le, e_ge, e_eq, e_ne, e_eqs, e_eqb, e_ixt, e_ixs, e_ixr, e_ixo, e_ixR, at0, at1, at2, at3, at4, at5, at6, e_int, e_intT, e_intF, e_abs, e_min, e_max, e_lent, e_lens, e_lenr, e_leno, e_sumt, e_sumr, e_sumo, e_ftup, e_tupo, e_apnd, e_clr, e_clro, e_gix, e_gi1, e_gi2, e_gi0, e_giB, e_tru, e_trub, e_isi, e_isir, fin_nx, fin_rt, fin_ex, b_bind, b_st, b_nx, b_thn, b_thr, b_thb, b_thc, List.getElem?_cons_zero, List.getElem?_cons_succ, List.set_cons_zero, List.set_cons_succ, decide_true, decide_false, Bool.not_true, Bool.not_false, List.cons_append, List.nil_append, List.length_map, eq_self, Int.reduceLT, Int.reduceLE, and_self, and_true, true_and, e_comp, get_last, Key.D, sS, Row.D]
    rcases hb : k.both with _ | _
    · rw [hb] at t0
      simp only [e_var, e_vget, e_c, e_op, e_op1, e_un, e_nil, e_cons, e_cons1, e_cons2, e_a0, e_ka0, e_app, e_app1, e_app2, e_tup, kT1, kT2, kT3, kT4, kT5, kT7, e_lst, kL0, kL1, kL2, kL3, kL4, kL5, e_test, e_ktest, e_and, e_andT, e_andF, e_or, e_orT, e_orF, e_not, e_knot, e_if, e_ifT, e_ifF, e_andv, e_andvT, e_andvF, e_orv, e_orvT, e_orvF, e_notv, e_knotv, e_ch, e_ch1, e_ch2, e_ch3T, e_ch3F, e_cb, e_call, e_make, e_fld, e_kfld, e_setf, e_setf1, e_setf2, e_seq, e_next, e_break, e_cont, e_expr, e_nx, e_ret, e_rt, e_retn, e_ifs, e_ifsT, e_ifsF, e_set, e_kset, e_asg, e_kasg, e_as2, e_gn, e_gtp, e_gto, e_gs0, e_gs1, e_for, e_rng1, e_rng2, e_srca, e_srcr, e_srco, e_srct, e_srcs, e_nop, e_part, e_kpart, e_sl, e_sl1, e_sl2, e_dslt, e_bm, e_kbm, e_bmo, e_add, e_sub, e_own1, e_mull, e_mulr, e_div, e_mod, e_neg, e_lt, e_gt, e_le, e_ge, e_eq, e_ne, e_eqs, e_eqb, e_ixt, e_ixs, e_ixr, e_ixo, e_ixR, at0, at1, at2, at3, at4, at5, at6, e_int, e_intT, e_intF, e_abs, e_min, e_max, e_lent, e_lens, e_lenr, e_leno, e_sumt, e_sumr, e_sumo, e_ftup, e_tupo, e_apnd, e_clr, e_clro, e_gix, e_gi1, e_gi2, e_gi0, e_giB, e_tru, e_trub, e_isi, e_isir, fin_nx, fin_rt, fin_ex, b_bind, b_st, b_nx, b_thn, b_thr, b_thb, b_thc, List.getElem?_cons_zero, List.getElem?_cons_succ, List.set_cons_zero, List.set_cons_succ, decide_true, decide_false, Bool.not_true, Bool.not_false, List.cons_append, List.nil_append, List.length_map, eq_self, Int.reduceLT, Int.reduceLE, and_self, and_true, true_and, e_comp, get_last]
      exact t0
    · rw [hb] at t0
      simp only [e_var, e_vget, e_c, e_op, e_op1, e_un, e_nil, e_cons, e_cons1, e_cons2, e_a0, e_ka0, e_app, e_app1, e_app2, e_tup, kT1, kT2, kT3, kT4, kT5, kT7, e_lst, kL0, kL1, kL2, kL3, kL4, kL5, e_test, e_ktest, e_and, e_andT, e_andF, e_or, e_orT, e_orF, e_not, e_knot, e_if, e_ifT, e_ifF, e_andv, e_andvT, e_andvF, e_orv, e_orvT, e_orvF, e_notv, e_knotv, e_ch, e_ch1, e_ch2, e_ch3T, e_ch3F, e_cb, e_call, e_make, e_fld, e_kfld, e_setf, e_setf1, e_setf2, e_seq, e_next, e_break, e_cont, e_expr, e_nx, e_ret, e_rt, e_retn, e_ifs, e_ifsT, e_ifsF, e_set, e_kset, e_asg, e_kasg, e_as2, e_gn, e_gtp, e_gto, e_gs0, e_gs1, e_for, e_rng1, e_rng2, e_srca, e_srcr, e_srco, e_srct, e_srcs, e_nop, e_part, e_kpart, e_sl, e_sl1, e_sl2, e_dslt, e_bm, e_kbm, e_bmo, e_add, e_sub, e_own1, e_mull, e_mulr, e_div, e_mod, e_neg, e_lt, e_gt, e_le, e_ge, e_eq, e_ne, e_eqs, e_eqb, e_ixt, e_ixs, e_ixr, e_ixo, e_ixR, at0, at1, at2, at3, at4, at5, at6, e_int, e_intT, e_intF, e_abs, e_min, e_max, e_lent, e_lens, e_lenr, e_leno, e_sumt, e_sumr, e_sumo, e_ftup, e_tupo, e_apnd, e_clr, e_clro, e_gix, e_gi1, e_gi2, e_gi0, e_giB, e_tru, e_trub, e_isi, e_isir, fin_nx, fin_rt, fin_ex, b_bind, b_st, b_nx, b_thn, b_thr, b_thb, b_thc, List.getElem?_cons_zero, List.getElem?_cons_succ, List.set_cons_zero, List.set_cons_succ, decide_true, decide_false, Bool.not_true, Bool.not_false, List.cons_append, List.nil_append, List.length_map, eq_self, Int.reduceLT, Int.reduceLE, and_self, and_true, true_and, e_comp, get_last]
      by_cases c1 : least ≤ reach
      · have hle : gW r s m - gL r s m + bg ≤ least := by rw [← hls]; exact Int.le_max_left _ _
        obtain ⟨v, hp1, e1, v1, v2, p1, g1, _⟩ := take_go pp (m := reach + 1 - least) (by omega) (by omega) (by omega)
        simp only [c1, e_var, e_vget, e_c, e_op, e_op1, e_un, e_nil, e_cons, e_cons1, e_cons2, e_a0, e_ka0, e_app, e_app1, e_app2, e_tup, kT1, kT2, kT3, kT4, kT5, kT7, e_lst, kL0, kL1, kL2, kL3, kL4, kL5, e_test, e_ktest, e_and, e_andT, e_andF, e_or, e_orT, e_orF, e_not, e_knot, e_if, e_ifT, e_ifF, e_andv, e_andvT, e_andvF, e_orv, e_orvT, e_orvF, e_notv, e_knotv, e_ch, e_ch1, e_ch2, e_ch3T, e_ch3F, e_cb, e_call, e_make, e_fld, e_kfld, e_setf, e_setf1, e_setf2, e_seq, e_next, e_break, e_cont, e_expr, e_nx, e_ret, e_rt, e_retn, e_ifs, e_ifsT, e_ifsF, e_set, e_kset, e_asg, e_kasg, e_as2, e_gn, e_gtp, e_gto, e_gs0, e_gs1, e_for, e_rng1, e_rng2, e_srca, e_srcr, e_srco, e_srct, e_srcs, e_nop, e_part, e_kpart, e_sl, e_sl1, e_sl2, e_dslt, e_bm, e_kbm, e_bmo, e_add, e_sub, e_own1, e_mull, e_mulr, e_div, e_mod, e_neg, e_lt, e_gt, e_le, e_ge, e_eq, e_ne, e_eqs, e_eqb, e_ixt, e_ixs, e_ixr, e_ixo, e_ixR, at0, at1, at2, at3, at4, at5, at6, e_int, e_intT, e_intF, e_abs, e_min, e_max, e_lent, e_lens, e_lenr, e_leno, e_sumt, e_sumr, e_sumo, e_ftup, e_tupo, e_apnd, e_clr, e_clro, e_gix, e_gi1, e_gi2, e_gi0, e_giB, e_tru, e_trub, e_isi, e_isir, fin_nx, fin_rt, fin_ex, b_bind, b_st, b_nx, b_thn, b_thr, b_thb, b_thc, List.getElem?_cons_zero, List.getElem?_cons_succ, List.set_cons_zero, List.set_cons_succ, decide_true, decide_false, Bool.not_true, Bool.not_false, List.cons_append, List.nil_append, List.length_map, eq_self, Int.reduceLT, Int.reduceLE, and_self, and_true, true_and, e_comp, get_last, e1, cut1, kA16]
        exact ⟨⟨_, k.ind, true, k.hy, k.tw, k.rv, k.ls⟩, _, rfl, ⟨kk.i0, kk.i1, kk.h0, kk.h1, kk.t0, kk.t1, kk.r0, kk.r1, kk.l0, kk.l1⟩, p1.le (by omega), gg.trans g1⟩
      · simp only [c1, e_var, e_vget, e_c, e_op, e_op1, e_un, e_nil, e_cons, e_cons1, e_cons2, e_a0, e_ka0, e_app, e_app1, e_app2, e_tup, kT1, kT2, kT3, kT4, kT5, kT7, e_lst, kL0, kL1, kL2, kL3, kL4, kL5, e_test, e_ktest, e_and, e_andT, e_andF, e_or, e_orT, e_orF, e_not, e_knot, e_if, e_ifT, e_ifF, e_andv, e_andvT, e_andvF, e_orv, e_orvT, e_orvF, e_notv, e_knotv, e_ch, e_ch1, e_ch2, e_ch3T, e_ch3F, e_cb, e_call, e_make, e_fld, e_kfld, e_setf, e_setf1, e_setf2, e_seq, e_next, e_break, e_cont, e_expr, e_nx, e_ret, e_rt, e_retn, e_ifs, e_ifsT, e_ifsF, e_set, e_kset, e_asg, e_kasg, e_as2, e_gn, e_gtp, e_gto, e_gs0, e_gs1, e_for, e_rng1, e_rng2, e_srca, e_srcr, e_srco, e_srct, e_srcs, e_nop, e_part, e_kpart, e_sl, e_sl1, e_sl2, e_dslt, e_bm, e_kbm, e_bmo, e_add, e_sub, e_own1, e_mull, e_mulr, e_div, e_mod, e_neg, e_lt, e_gt, e_le, e_ge, e_eq, e_ne, e_eqs, e_eqb, e_ixt, e_ixs, e_ixr, e_ixo, e_ixR, at0, at1, at2, at3, at4, at5, at6, e_int, e_intT, e_intF, e_abs, e_min, e_max, e_lent, e_lens, e_lenr, e_leno, e_sumt, e_sumr, e_sumo, e_ftup, e_tupo, e_apnd, e_clr, e_clro, e_gix, e_gi1, e_gi2, e_gi0, e_giB, e_tru, e_trub, e_isi, e_isir, fin_nx, fin_rt, fin_ex, b_bind, b_st, b_nx, b_thn, b_thr, b_thb, b_thc, List.getElem?_cons_zero, List.getElem?_cons_succ, List.set_cons_zero, List.set_cons_succ, decide_true, decide_false, Bool.not_true, Bool.not_false, List.cons_append, List.nil_append, List.length_map, eq_self, Int.reduceLT, Int.reduceLE, and_self, and_true, true_and, e_comp, get_last]
        exact t0
  rw [ent__law_shared]
  simp only [Row.D, Key.D] at eU eV tail
  simp only [m__law_shared, e_var, e_vget, e_c, e_op, e_op1, e_un, e_nil, e_cons, e_cons1, e_cons2, e_a0, e_ka0, e_app, e_app1, e_app2, e_tup, kT1, kT2, kT3, kT4, kT5, kT7, e_lst, kL0, kL1, kL2, kL3, kL4, kL5, e_test, e_ktest, e_and, e_andT, e_andF, e_or, e_orT, e_orF, e_not, e_knot, e_if, e_ifT, e_ifF, e_andv, e_andvT, e_andvF, e_orv, e_orvT, e_orvF, e_notv, e_knotv, e_ch, e_ch1, e_ch2, e_ch3T, e_ch3F, e_cb, e_call, e_make, e_fld, e_kfld, e_setf, e_setf1, e_setf2, e_seq, e_next, e_break, e_cont, e_expr, e_nx, e_ret, e_rt, e_retn, e_ifs, e_ifsT, e_ifsF, e_set, e_kset, e_asg, e_kasg, e_as2, e_gn, e_gtp, e_gto, e_gs0, e_gs1, e_for, e_rng1, e_rng2, e_srca, e_srcr, e_srco, e_srct, e_srcs, e_nop, e_part, e_kpart, e_sl, e_sl1, e_sl2, e_dslt, e_bm, e_kbm, e_bmo, e_add, e_sub, e_own1, e_mull, e_mulr, e_div, e_mod, e_neg, e_lt, e_gt, e_le, e_ge, e_eq, e_ne, e_eqs, e_eqb, e_ixt, e_ixs, e_ixr, e_ixo, e_ixR, at0, at1, at2, at3, at4, at5, at6, e_int, e_intT, e_intF, e_abs, e_min, e_max, e_lent, e_lens, e_lenr, e_leno, e_sumt, e_sumr, e_sumo, e_ftup, e_tupo, e_apnd, e_clr, e_clro, e_gix, e_gi1, e_gi2, e_gi0, e_giB, e_tru, e_trub, e_isi, e_isir, fin_nx, fin_rt, fin_ex, b_bind, b_st, b_nx, b_thn, b_thr, b_thb, b_thc, List.getElem?_cons_zero, List.getElem?_cons_succ, List.set_cons_zero, List.set_cons_succ, decide_true, decide_false, Bool.not_true, Bool.not_false, List.cons_append, List.nil_append, List.length_map, eq_self, Int.reduceLT, Int.reduceLE, and_self, and_true, true_and, e_comp, get_last, ht, Row.D, Key.D, eU, ht1, eV, ht2, e_i01, ind_mul kk, hbg, gU, iU0, iU1, iU2, iV0, iV2, hls, q1]
  by_cases he : (e : Int) < (r.ws.length : Int)
  · simp only [he, e_var, e_vget, e_c, e_op, e_op1, e_un, e_nil, e_cons, e_cons1, e_cons2, e_a0, e_ka0, e_app, e_app1, e_app2, e_tup, kT1, kT2, kT3, kT4, kT5, kT7, e_lst, kL0, kL1, kL2, kL3, kL4, kL5, e_test, e_ktest, e_and, e_andT, e_andF, e_or, e_orT, e_orF, e_not, e_knot, e_if, e_ifT, e_ifF, e_andv, e_andvT, e_andvF, e_orv, e_orvT, e_orvF, e_notv, e_knotv, e_ch, e_ch1, e_ch2, e_ch3T, e_ch3F, e_cb, e_call, e_make, e_fld, e_kfld, e_setf, e_setf1, e_setf2, e_seq, e_next, e_break, e_cont, e_expr, e_nx, e_ret, e_rt, e_retn, e_ifs, e_ifsT, e_ifsF, e_set, e_kset, e_asg, e_kasg, e_as2, e_gn, e_gtp, e_gto, e_gs0, e_gs1, e_for, e_rng1, e_rng2, e_srca, e_srcr, e_srco, e_srct, e_srcs, e_nop, e_part, e_kpart, e_sl, e_sl1, e_sl2, e_dslt, e_bm, e_kbm, e_bmo, e_add, e_sub, e_own1, e_mull, e_mulr, e_div, e_mod, e_neg, e_lt, e_gt, e_le, e_ge, e_eq, e_ne, e_eqs, e_eqb, e_ixt, e_ixs, e_ixr, e_ixo, e_ixR, at0, at1, at2, at3, at4, at5, at6, e_int, e_intT, e_intF, e_abs, e_min, e_max, e_lent, e_lens, e_lenr, e_leno, e_sumt, e_sumr, e_sumo, e_ftup, e_tupo, e_apnd, e_clr, e_clro, e_gix, e_gi1, e_gi2, e_gi0, e_giB, e_tru, e_trub, e_isi, e_isir, fin_nx, fin_rt, fin_ex, b_bind, b_st, b_nx, b_thn, b_thr, b_thb, b_thc, List.getElem?_cons_zero, List.getElem?_cons_succ, List.set_cons_zero, List.set_cons_succ, decide_true, decide_false, Bool.not_true, Bool.not_false, List.cons_append, List.nil_append, List.length_map, eq_self, Int.reduceLT, Int.reduceLE, and_self, and_true, true_and, e_comp, get_last, iV0, iV1, q1]
    exact tail _ (Int.min_le_left _ _)
  · simp only [he, e_var, e_vget, e_c, e_op, e_op1, e_un, e_nil, e_cons, e_cons1, e_cons2, e_a0, e_ka0, e_app, e_app1, e_app2, e_tup, kT1, kT2, kT3, kT4, kT5, kT7, e_lst, kL0, kL1, kL2, kL3, kL4, kL5, e_test, e_ktest, e_and, e_andT, e_andF, e_or, e_orT, e_orF, e_not, e_knot, e_if, e_ifT, e_ifF, e_andv, e_andvT, e_andvF, e_orv, e_orvT, e_orvF, e_notv, e_knotv, e_ch, e_ch1, e_ch2, e_ch3T, e_ch3F, e_cb, e_call, e_make, e_fld, e_kfld, e_setf, e_setf1, e_setf2, e_seq, e_next, e_break, e_cont, e_expr, e_nx, e_ret, e_rt, e_retn, e_ifs, e_ifsT, e_ifsF, e_set, e_kset, e_asg, e_kasg, e_as2, e_gn, e_gtp, e_gto, e_gs0, e_gs1, e_for, e_rng1, e_rng2, e_srca, e_srcr, e_srco, e_srct, e_srcs, e_nop, e_part, e_kpart, e_sl, e_sl1, e_sl2, e_dslt, e_bm, e_kbm, e_bmo, e_add, e_sub, e_own1, e_mull, e_mulr, e_div, e_mod, e_neg, e_lt, e_gt, e_le, e_ge, e_eq, e_ne, e_eqs, e_eqb, e_ixt, e_ixs, e_ixr, e_ixo, e_ixR, at0, at1, at2, at3, at4, at5, at6, e_int, e_intT, e_intF, e_abs, e_min, e_max, e_lent, e_lens, e_lenr, e_leno, e_sumt, e_sumr, e_sumo, e_ftup, e_tupo, e_apnd, e_clr, e_clro, e_gix, e_gi1, e_gi2, e_gi0, e_giB, e_tru, e_trub, e_isi, e_isir, fin_nx, fin_rt, fin_ex, b_bind, b_st, b_nx, b_thn, b_thr, b_thb, b_thc, List.getElem?_cons_zero, List.getElem?_cons_succ, List.set_cons_zero, List.set_cons_succ, decide_true, decide_false, Bool.not_true, Bool.not_false, List.cons_append, List.nil_append, List.length_map, eq_self, Int.reduceLT, Int.reduceLE, and_self, and_true, true_and, e_comp, get_last]
    exact tail _ (Int.le_refl _)
end
end DL
/-! the second row -/
namespace DL
open PySem PySem.Spec PyProof.Rows L2
theorem hyph_go {hp : DH} {p : Nat} {c below broad : Int} (h : PoolAt hp p c) (hc : c ≤ 2 ^ 55) (h1 : 1 ≤ below) (h2 : below < 2 ^ 60) (hb : broad = 0 ∨ broad = 1) :
    ∃ (m b : Int) (hp' : DH), run__law_hyphen [.ref p, .int below, .int broad] hp = .ok (Jt.hyp m b).D hp' ∧ (Jt.hyp m b).OK below ∧ PoolAt hp' p (c + 4) ∧ Gr p hp hp' := by
  obtain ⟨m1, i1, i1a, i1b⟩ : ∃ m, atI [D.int 9, D.int 500] broad = some (.int m) ∧ 1 ≤ m ∧ m ≤ 500 := by
    rcases hb with rfl | rfl
    · exact ⟨9, at0, by omega, by omega⟩
    · exact ⟨500, at1, by omega, by omega⟩
  rw [ent__law_hyphen]
  obtain ⟨v3, hp3, e3, a1, a2, p3, g3, l3⟩ := take_go (h.app (e := [.lst [.int 9, .int 500]])) (m := m1) (by omega) (by omega) (by omega)
  obtain ⟨v4, hp4, e4, b1, b2, p4, g4, l4⟩ := take_go p3 (m := below) (by omega) (by omega) (by omega)
  simp only [m__law_hyphen, e_var, e_vget, e_c, e_op, e_op1, e_un, e_nil, e_cons, e_cons1, e_cons2, e_a0, e_ka0, e_app, e_app1, e_app2, e_tup, kT1, kT2, kT3, kT4, kT5, kT7, e_lst, kL0, kL1, kL2, kL3, kL4, kL5, e_test, e_ktest, e_and, e_andT, e_andF, e_or, e_orT, e_orF, e_not, e_knot, e_if, e_ifT, e_ifF, e_andv, e_andvT, e_andvF, e_orv, e_orvT, e_orvF, e_notv, e_knotv, e_ch, e_ch1, e_ch2, e_ch3T, e_ch3F, e_cb, e_call, e_make, e_fld, e_kfld, e_setf, e_setf1, e_setf2, e_seq, e_next, e_break, e_cont, e_expr, e_nx, e_ret, e_rt, e_retn, e_ifs, e_ifsT, e_ifsF, e_set, e_kset, e_asg, e_kasg, e_as2, e_gn, e_gtp, e_gto, e_gs0, e_gs1, e_for, e_rng1, e_rng2, e_srca, e_srcr, e_srco, e_srct, e_srcs, e_nop, e_part, e_kpart, e_sl, e_sl1, e_sl2, e_dslt, e_bm, e_kbm, e_bmo, e_add, e_sub, e_own1, e_mull, e_mulr, e_div, e_mod, e_neg, e_lt, e_gt, e_le, e_ge, e_eq, e_ne, e_eqs, e_eqb, e_ixt, e_ixs, e_ixr, e_ixo, e_ixR, at0, at1, at2, at3, at4, at5, at6, e_int, e_intT, e_intF, e_abs, e_min, e_max, e_lent, e_lens, e_lenr, e_leno, e_sumt, e_sumr, e_sumo, e_ftup, e_tupo, e_apnd, e_clr, e_clro, e_gix, e_gi1, e_gi2, e_gi0, e_giB, e_tru, e_trub, e_isi, e_isir, fin_nx, fin_rt, fin_ex, b_bind, b_st, b_nx, b_thn, b_thr, b_thb, b_thc, List.getElem?_cons_zero, List.getElem?_cons_succ, List.set_cons_zero, List.set_cons_succ, decide_true, decide_false, Bool.not_true, Bool.not_false, List.cons_append, List.nil_append, List.length_map, eq_self, Int.reduceLT, Int.reduceLE, and_self, and_true, true_and, e_comp, get_last, i1, e3, e4]
  exact ⟨1 + v3, v4, hp4, rfl, ⟨by omega, by omega, b1, b2⟩, p4.le (by omega), (Px.app _ _).gr.trans (g3.trans g4)⟩
theorem OK_le {j : Jt} {a b : Int} (h : j.OK a) (hab : a ≤ b) : j.OK b := by
  rcases j with ⟨w, m, l⟩ | ⟨m, x⟩
  · exact h
  · obtain ⟨h1, h2, h3, h4⟩ := h
    exact ⟨h1, h2, h3, by omega⟩
theorem echo_l0 {p wd jd : Nat} {c many broad gaps top : Int} {n : Nat} {hp0 : DH} {ws : List Int} {x7 x8 x9 x10 : Option D} (hc : c ≤ 2 ^ 50) (hb : broad = 0 ∨ broad = 1) (hn : n < ws.length) (hl : ws.length ≤ 40) (hw : hp0.length ≤ jd) (hpw : p ≠ jd) (hpw2 : p ≠ wd)
    (hwd : hp0[wd]? = some (.lst (ws.map .int))) (wp : ∀ k, k < ws.length → 1 ≤ ws.getD k 0 ∧ ws.getD k 0 ≤ 5000)
    {hp : DH} (h : JSt p jd c (fun k => ws.getD k 0) 0 hp0 hp []) :
    ∃ env' hp', kFor (gN 7) lp__law_echo_0 [some (.ref p), some (.int many), some (.int broad), some (.int gaps), some (.int top), some (.ref wd), some (.ref jd), x7, x8, x9, x10, none, none, none] (.rng 0 n) hp = .nx env' hp' ∧
      ∃ x7 x8 x9 x10 js, env' = [some (.ref p), some (.int many), some (.int broad), some (.int gaps), some (.int top), some (.ref wd), some (.ref jd), x7, x8, x9, x10, none, none, none] ∧ JSt p jd c (fun k => ws.getD k 0) n hp0 hp' js := by
  refine for_rng (fun i env' hp' => ∃ x7 x8 x9 x10 js, env' = [some (.ref p), some (.int many), some (.int broad), some (.int gaps), some (.int top), some (.ref wd), some (.ref jd), x7, x8, x9, x10, none, none, none] ∧ JSt p jd c (fun k => ws.getD k 0) i hp0 hp' js) ⟨_, _, _, _, [], rfl, h⟩ ?_
  rintro i env hp hi ⟨x7, x8, x9, x10, js, rfl, st⟩
  have hjl := st.len
  have hap : ∀ (v : Jt) (hp : DH), appO jd v.D (some (.lst (js.map Jt.D))) hp = .ok .non (hp.set jd (.lst (js.map Jt.D ++ [v.D]))) := fun v hp => e_appo (by simp [hjl, sizeLine]; omega)
  have w0 := wp i (by omega)
  have w1 := wp (i + 1) (by omega)
  have aw := st.gr.get hwd (Ne.symm hpw2)
  have k0 : atI (ws.map D.int) (i : Int) = some (.int (ws.getD i 0)) := by rw [at_map (d := 0) (by omega) (by omega)]; congr 3
  have k1 : atI (ws.map D.int) ((i : Int) + 1) = some (.int (ws.getD (i + 1) 0)) := by rw [at_map (d := 0) (by omega) (by omega)]; congr 3
  obtain ⟨m2, i2, i2a, i2b⟩ : ∃ m, atI [D.int 12, D.int 500] broad = some (.int m) ∧ 1 ≤ m ∧ m ≤ 500 := by
    rcases hb with rfl | rfl
    · exact ⟨12, at0, by omega, by omega⟩
    · exact ⟨500, at1, by omega, by omega⟩
  obtain ⟨m3, i3, i3a, i3b⟩ : ∃ m, atI [D.int 12, D.int 501] broad = some (.int m) ∧ 1 ≤ m ∧ m ≤ 501 := by
    rcases hb with rfl | rfl
    · exact ⟨12, at0, by omega, by omega⟩
    · exact ⟨501, at1, by omega, by omega⟩
  obtain ⟨v3, hp3, e3, a1, a2, p3, g3, l3⟩ := take_go (st.pl.app (e := [.lst [.int 12, .int 500]])) (m := m2) (by omega) (by omega) (by omega)
  obtain ⟨v4, hp4, e4, b1, b2, p4, g4, l4⟩ := take_go (p3.app (e := [.lst [.int 12, .int 501]])) (m := m3) (by omega) (by omega) (by omega)
  obtain ⟨v5, hp5, e5, c1, c2, p5, g5, l5⟩ := take_go p4 (m := 1 + v3) (by omega) (by omega) (by omega)
  have gg : Gr p hp hp5 := (Px.app _ _).gr.trans (g3.trans ((Px.app _ _).gr.trans (g4.trans g5)))
  have aj0 := st.at_
  have aj4 := ((Px.app _ _).gr.trans (g3.trans ((Px.app _ _).gr.trans g4))).get st.at_ (Ne.symm hpw)
  have aj5 := gg.get st.at_ (Ne.symm hpw)
  have hap5 := hap (.gap (1 + v3) v4 v5)
  simp only [Jt.D] at hap5
  have okg : (Jt.gap (1 + v3) v4 v5).OK (min (ws.getD i 0) (ws.getD (i + 1) 0)) := ⟨by omega, by omega, by omega, by omega, by omega, by omega⟩
  have stg := st.step (v := .gap (1 + v3) v4 v5) hw hpw (p5.le (by omega)) gg okg
  simp only [Jt.D] at stg
  obtain ⟨v, hp1, e1, hv, p1, g1⟩ := joint_go st.pl (below := min (ws.getD i 0) (ws.getD (i + 1) 0)) (by omega) (by omega) (by omega) hb
  have a2' := g1.get st.at_ (Ne.symm hpw)
  have aj3 := ((Px.app hp [DO.lst [.int 12, .int 500]]).gr.trans g3).get st.at_ (Ne.symm hpw)
  simp only [lp__law_echo_0, e_var, e_vget, e_c, e_op, e_op1, e_un, e_nil, e_cons, e_cons1, e_cons2, e_a0, e_ka0, e_app, e_app1, e_app2, e_tup, kT1, kT2, kT3, kT4, kT5, kT7, e_lst, kL0, kL1, kL2, kL3, kL4, kL5, e_test, e_ktest, e_and, e_andT, e_andF, e_or, e_orT, e_orF, e_not, e_knot, e_if, e_ifT, e_ifF, e_andv, e_andvT, e_andvF, e_orv, e_orvT, e_orvF, e_notv, e_knotv, e_ch, e_ch1, e_ch2, e_ch3T, e_ch3F, e_cb, e_call, e_make, e_fld, e_kfld, e_setf, e_setf1, e_setf2, e_seq, e_next, e_break, e_cont, e_expr, e_nx, e_ret, e_rt, e_retn, e_ifs, e_ifsT, e_ifsF, e_set, e_kset, e_asg, e_kasg, e_as2, e_gn, e_gtp, e_gto, e_gs0, e_gs1, e_for, e_rng1, e_rng2, e_srca, e_srcr, e_srco, e_srct, e_srcs, e_nop, e_part, e_kpart, e_sl, e_sl1, e_sl2, e_dslt, e_bm, e_kbm, e_bmo, e_add, e_sub, e_own1, e_mull, e_mulr, e_div, e_mod, e_neg, e_lt, e_gt, e_le, e_ge, e_eq, e_ne, e_eqs, e_eqb, e_ixt, e_ixs, e_ixr, e_ixo, e_ixR, at0, at1, at2, at3, at4, at5, at6, e_int, e_intT, e_intF, e_abs, e_min, e_max, e_lent, e_lens, e_lenr, e_leno, e_sumt, e_sumr, e_sumo, e_ftup, e_tupo, e_apnd, e_clr, e_clro, e_gix, e_gi1, e_gi2, e_gi0, e_giB, e_tru, e_trub, e_isi, e_isir, fin_nx, fin_rt, fin_ex, b_bind, b_st, b_nx, b_thn, b_thr, b_thb, b_thc, List.getElem?_cons_zero, List.getElem?_cons_succ, List.set_cons_zero, List.set_cons_succ, decide_true, decide_false, Bool.not_true, Bool.not_false, List.cons_append, List.nil_append, List.length_map, eq_self, Int.reduceLT, Int.reduceLE, and_self, and_true, true_and, e_comp, get_last, Int.zero_add]
  by_cases h1 : (i : Int) = 0
  · simp only [h1, e_var, e_vget, e_c, e_op, e_op1, e_un, e_nil, e_cons, e_cons1, e_cons2, e_a0, e_ka0, e_app, e_app1, e_app2, e_tup, kT1, kT2, kT3, kT4, kT5, kT7, e_lst, kL0, kL1, kL2, kL3, kL4, kL5, e_test, e_ktest, e_and, e_andT, e_andF, e_or, e_orT, e_orF, e_not, e_knot, e_if, e_ifT, e_ifF, e_andv, e_andvT, e_andvF, e_orv, e_orvT, e_orvF, e_notv, e_knotv, e_ch, e_ch1, e_ch2, e_ch3T, e_ch3F, e_cb, e_call, e_make, e_fld, e_kfld, e_setf, e_setf1, e_setf2, e_seq, e_next, e_break, e_cont, e_expr, e_nx, e_ret, e_rt, e_retn, e_ifs, e_ifsT, e_ifsF, e_set, e_kset, e_asg, e_kasg, e_as2, e_gn, e_gtp, e_gto, e_gs0, e_gs1, e_for, e_rng1, e_rng2, e_srca, e_srcr, e_srco, e_srct, e_srcs, e_nop, e_part, e_kpart, e_sl, e_sl1, e_sl2, e_dslt, e_bm, e_kbm, e_bmo, e_add, e_sub, e_own1, e_mull, e_mulr, e_div, e_mod, e_neg, e_lt, e_gt, e_le, e_ge, e_eq, e_ne, e_eqs, e_eqb, e_ixt, e_ixs, e_ixr, e_ixo, e_ixR, at0, at1, at2, at3, at4, at5, at6, e_int, e_intT, e_intF, e_abs, e_min, e_max, e_lent, e_lens, e_lenr, e_leno, e_sumt, e_sumr, e_sumo, e_ftup, e_tupo, e_apnd, e_clr, e_clro, e_gix, e_gi1, e_gi2, e_gi0, e_giB, e_tru, e_trub, e_isi, e_isir, fin_nx, fin_rt, fin_ex, b_bind, b_st, b_nx, b_thn, b_thr, b_thb, b_thc, List.getElem?_cons_zero, List.getElem?_cons_succ, List.set_cons_zero, List.set_cons_succ, decide_true, decide_false, Bool.not_true, Bool.not_false, List.cons_append, List.nil_append, List.length_map, eq_self, Int.reduceLT, Int.reduceLE, and_self, and_true, true_and, e_comp, get_last, i2, e3, i3, e4, aj4, aj3, e5, aj5, hap5]
    exact ⟨_, _, rfl, _, _, _, _, _, rfl, stg⟩
  · simp only [h1, e_var, e_vget, e_c, e_op, e_op1, e_un, e_nil, e_cons, e_cons1, e_cons2, e_a0, e_ka0, e_app, e_app1, e_app2, e_tup, kT1, kT2, kT3, kT4, kT5, kT7, e_lst, kL0, kL1, kL2, kL3, kL4, kL5, e_test, e_ktest, e_and, e_andT, e_andF, e_or, e_orT, e_orF, e_not, e_knot, e_if, e_ifT, e_ifF, e_andv, e_andvT, e_andvF, e_orv, e_orvT, e_orvF, e_notv, e_knotv, e_ch, e_ch1, e_ch2, e_ch3T, e_ch3F, e_cb, e_call, e_make, e_fld, e_kfld, e_setf, e_setf1, e_setf2, e_seq, e_next, e_break, e_cont, e_expr, e_nx, e_ret, e_rt, e_retn, e_ifs, e_ifsT, e_ifsF, e_set, e_kset, e_asg, e_kasg, e_as2, e_gn, e_gtp, e_gto, e_gs0, e_gs1, e_for, e_rng1, e_rng2, e_srca, e_srcr, e_srco, e_srct, e_srcs, e_nop, e_part, e_kpart, e_sl, e_sl1, e_sl2, e_dslt, e_bm, e_kbm, e_bmo, e_add, e_sub, e_own1, e_mull, e_mulr, e_div, e_mod, e_neg, e_lt, e_gt, e_le, e_ge, e_eq, e_ne, e_eqs, e_eqb, e_ixt, e_ixs, e_ixr, e_ixo, e_ixR, at0, at1, at2, at3, at4, at5, at6, e_int, e_intT, e_intF, e_abs, e_min, e_max, e_lent, e_lens, e_lenr, e_leno, e_sumt, e_sumr, e_sumo, e_ftup, e_tupo, e_apnd, e_clr, e_clro, e_gix, e_gi1, e_gi2, e_gi0, e_giB, e_tru, e_trub, e_isi, e_isir, fin_nx, fin_rt, fin_ex, b_bind, b_st, b_nx, b_thn, b_thr, b_thb, b_thc, List.getElem?_cons_zero, List.getElem?_cons_succ, List.set_cons_zero, List.set_cons_succ, decide_true, decide_false, Bool.not_true, Bool.not_false, List.cons_append, List.nil_append, List.length_map, eq_self, Int.reduceLT, Int.reduceLE, and_self, and_true, true_and, e_comp, get_last]
    by_cases h2 : gaps = 1
    · simp only [h2, e_var, e_vget, e_c, e_op, e_op1, e_un, e_nil, e_cons, e_cons1, e_cons2, e_a0, e_ka0, e_app, e_app1, e_app2, e_tup, kT1, kT2, kT3, kT4, kT5, kT7, e_lst, kL0, kL1, kL2, kL3, kL4, kL5, e_test, e_ktest, e_and, e_andT, e_andF, e_or, e_orT, e_orF, e_not, e_knot, e_if, e_ifT, e_ifF, e_andv, e_andvT, e_andvF, e_orv, e_orvT, e_orvF, e_notv, e_knotv, e_ch, e_ch1, e_ch2, e_ch3T, e_ch3F, e_cb, e_call, e_make, e_fld, e_kfld, e_setf, e_setf1, e_setf2, e_seq, e_next, e_break, e_cont, e_expr, e_nx, e_ret, e_rt, e_retn, e_ifs, e_ifsT, e_ifsF, e_set, e_kset, e_asg, e_kasg, e_as2, e_gn, e_gtp, e_gto, e_gs0, e_gs1, e_for, e_rng1, e_rng2, e_srca, e_srcr, e_srco, e_srct, e_srcs, e_nop, e_part, e_kpart, e_sl, e_sl1, e_sl2, e_dslt, e_bm, e_kbm, e_bmo, e_add, e_sub, e_own1, e_mull, e_mulr, e_div, e_mod, e_neg, e_lt, e_gt, e_le, e_ge, e_eq, e_ne, e_eqs, e_eqb, e_ixt, e_ixs, e_ixr, e_ixo, e_ixR, at0, at1, at2, at3, at4, at5, at6, e_int, e_intT, e_intF, e_abs, e_min, e_max, e_lent, e_lens, e_lenr, e_leno, e_sumt, e_sumr, e_sumo, e_ftup, e_tupo, e_apnd, e_clr, e_clro, e_gix, e_gi1, e_gi2, e_gi0, e_giB, e_tru, e_trub, e_isi, e_isir, fin_nx, fin_rt, fin_ex, b_bind, b_st, b_nx, b_thn, b_thr, b_thb, b_thc, List.getElem?_cons_zero, List.getElem?_cons_succ, List.set_cons_zero, List.set_cons_succ, decide_true, decide_false, Bool.not_true, Bool.not_false, List.cons_append, List.nil_append, List.length_map, eq_self, Int.reduceLT, Int.reduceLE, and_self, and_true, true_and, e_comp, get_last, i2, e3, i3, e4, aj4, aj3, e5, aj5, hap5]
      exact ⟨_, _, rfl, _, _, _, _, _, rfl, stg⟩
    · simp only [h2, e_var, e_vget, e_c, e_op, e_op1, e_un, e_nil, e_cons, e_cons1, e_cons2, e_a0, e_ka0, e_app, e_app1, e_app2, e_tup, kT1, kT2, kT3, kT4, kT5, kT7, e_lst, kL0, kL1, kL2, kL3, kL4, kL5, e_test, e_ktest, e_and, e_andT, e_andF, e_or, e_orT, e_orF, e_not, e_knot, e_if, e_ifT, e_ifF, e_andv, e_andvT, e_andvF, e_orv, e_orvT, e_orvF, e_notv, e_knotv, e_ch, e_ch1, e_ch2, e_ch3T, e_ch3F, e_cb, e_call, e_make, e_fld, e_kfld, e_setf, e_setf1, e_setf2, e_seq, e_next, e_break, e_cont, e_expr, e_nx, e_ret, e_rt, e_retn, e_ifs, e_ifsT, e_ifsF, e_set, e_kset, e_asg, e_kasg, e_as2, e_gn, e_gtp, e_gto, e_gs0, e_gs1, e_for, e_rng1, e_rng2, e_srca, e_srcr, e_srco, e_srct, e_srcs, e_nop, e_part, e_kpart, e_sl, e_sl1, e_sl2, e_dslt, e_bm, e_kbm, e_bmo, e_add, e_sub, e_own1, e_mull, e_mulr, e_div, e_mod, e_neg, e_lt, e_gt, e_le, e_ge, e_eq, e_ne, e_eqs, e_eqb, e_ixt, e_ixs, e_ixr, e_ixo, e_ixR, at0, at1, at2, at3, at4, at5, at6, e_int, e_intT, e_intF, e_abs, e_min, e_max, e_lent, e_lens, e_lenr, e_leno, e_sumt, e_sumr, e_sumo, e_ftup, e_tupo, e_apnd, e_clr, e_clro, e_gix, e_gi1, e_gi2, e_gi0, e_giB, e_tru, e_trub, e_isi, e_isir, fin_nx, fin_rt, fin_ex, b_bind, b_st, b_nx, b_thn, b_thr, b_thb, b_thc, List.getElem?_cons_zero, List.getElem?_cons_succ, List.set_cons_zero, List.set_cons_succ, decide_true, decide_false, Bool.not_true, Bool.not_false, List.cons_append, List.nil_append, List.length_map, eq_self, Int.reduceLT, Int.reduceLE, and_self, and_true, true_and, e_comp, get_last, aw, k0, k1, aj0, e1, a2', hap]
      exact ⟨_, _, rfl, _, _, _, _, _, rfl, st.step hw hpw (p1.le (by omega)) g1 hv⟩
end DL
/-! the second row, made -/
namespace DL
open PySem PySem.Spec PyProof.Rows L2
theorem e_addr {a b : Nat} {xs ys : List D} {hp : DH} (h1 : hp[a]? = some (.lst xs)) (h2 : hp[b]? = some (.lst ys)) (hl : xs.length + ys.length ≤ 10000) : dAdd (.ref a) (.ref b) hp = .ok (.ref hp.length) (hp ++ [.lst (xs ++ ys)]) := by
  unfold dAdd
  simp only [h1, h2]
  rw [if_pos (by simp [sizeLine]; omega)]
theorem at_neg {α : Type} {f : α → D} {l : List α} {d : α} (h : 0 < l.length) : atI (l.map f) (-1) = some (f (l.getD (l.length - 1) d)) := by
  have hlen : (l.map f).length = l.length := by simp
  have h1 : ixN l.length (-1) = some (l.length - 1) := by
    unfold ixN
    rw [if_neg (by omega), if_pos (by omega)]
    congr 1
    omega
  have h2 : atI (l.map f) (-1) = (l.map f)[l.length - 1]? := by
    unfold atI
    rw [hlen, h1]; rfl
  rw [h2]
  have h3 : l.length - 1 < l.length := by omega
  simp [h3]
theorem getD_cat {α : Type} {a b : List α} {i : Nat} {d : α} : (a ++ b).getD i d = if i < a.length then a.getD i d else b.getD (i - a.length) d := by
  by_cases h : i < a.length
  · rw [if_pos h]; simp [List.getElem?_append_left h]
  · rw [if_neg h]; simp [List.getElem?_append_right (Nat.le_of_not_lt h)]
theorem echo_row {ws : List Int} {js : List Jt} {tail : Int} {mid beh : Jt} (hm : 2 ≤ ws.length) (hm2 : ws.length ≤ 15) (hj : js.length = ws.length - 1) (wp : ∀ k, k < ws.length → 1 ≤ ws.getD k 0 ∧ ws.getD k 0 ≤ 5000) (ht : 1 ≤ tail ∧ tail ≤ 5000)
    (jp : ∀ k, k < ws.length - 1 → (js.getD k default).OK (min (ws.getD k 0) (ws.getD (k + 1) 0))) (hmid : mid.OK (min (ws.getD 0 0) (ws.getD (ws.length - 1) 0))) (hbeh : beh.OK (min tail (ws.getD (ws.length - 1) 0))) :
    (Row.mk ((ws ++ ws) ++ [tail]) (((js ++ [mid]) ++ js) ++ [beh])).OK := by
  have hw : ∀ i, (Row.mk ((ws ++ ws) ++ [tail]) (((js ++ [mid]) ++ js) ++ [beh])).w i = if i < ws.length then ws.getD i 0 else if i < 2 * ws.length then ws.getD (i - ws.length) 0 else [tail].getD (i - 2 * ws.length) 0 := by
    intro i
    unfold Row.w
    simp only
    rw [getD_cat, getD_cat]
    simp only [List.length_append]
    by_cases h1 : i < ws.length
    · rw [if_pos (by omega), if_pos h1, if_pos h1]
    · by_cases h2 : i < 2 * ws.length
      · rw [if_pos (by omega), if_neg h1, if_neg h1, if_pos h2]
      · rw [if_neg (by omega), if_neg h1, if_neg h2, show i - (ws.length + ws.length) = i - 2 * ws.length by omega]
  have hjj : ∀ i, i < 2 * ws.length → (Row.mk ((ws ++ ws) ++ [tail]) (((js ++ [mid]) ++ js) ++ [beh])).j i = if i < ws.length - 1 then js.getD i default else if i = ws.length - 1 then mid else if i < 2 * ws.length - 1 then js.getD (i - ws.length) default else beh := by
    intro i hi
    unfold Row.j
    simp only
    rw [getD_cat, getD_cat, getD_cat]
    simp only [List.length_append, List.length_cons, List.length_nil, hj]
    by_cases h1 : i < ws.length - 1
    · rw [if_pos (by omega), if_pos (by omega), if_pos h1, if_pos h1]
    · rw [if_neg h1, if_neg h1]
      by_cases h2 : i = ws.length - 1
      · rw [if_pos (by omega), if_pos (by omega), if_pos h2, show i - (ws.length - 1) = 0 by omega]; rfl
      · rw [if_neg h2]
        by_cases h3 : i < 2 * ws.length - 1
        · rw [if_pos (by omega), if_neg (by omega), if_pos h3, show i - (ws.length - 1 + (0 + 1)) = i - ws.length by omega]
        · rw [if_neg (by omega), if_neg h3, show i - (ws.length - 1 + (0 + 1) + (ws.length - 1)) = 0 by omega]; rfl
  refine ⟨by simp [hj]; omega, by simp; omega, ?_, ?_⟩
  · intro i hi
    rw [hw]
    have hi2 : i < 2 * ws.length + 1 := by simp at hi; omega
    by_cases h1 : i < ws.length
    · rw [if_pos h1]; exact wp i h1
    · rw [if_neg h1]
      by_cases h2 : i < 2 * ws.length
      · rw [if_pos h2]; exact wp _ (by omega)
      · rw [if_neg h2, show i - 2 * ws.length = 0 by omega]; exact ht
  · intro i hi
    have hi2 : i < 2 * ws.length := by simp at hi; omega
    rw [hjj i hi2, hw, hw]
    by_cases h1 : i < ws.length - 1
    · rw [if_pos h1, if_pos (by omega), if_pos (by omega)]; exact jp i h1
    · rw [if_neg h1]
      by_cases h2 : i = ws.length - 1
      · rw [if_pos h2, if_pos (by omega), if_neg (by omega), if_pos (by omega), show i + 1 - ws.length = 0 by omega, h2]
        exact OK_le hmid (by omega)
      · rw [if_neg h2]
        by_cases h3 : i < 2 * ws.length - 1
        · rw [if_pos h3, if_neg (by omega), if_pos (by omega), if_neg (by omega), if_pos (by omega), show i + 1 - ws.length = i - ws.length + 1 by omega]
          exact jp _ (by omega)
        · rw [if_neg h3, if_neg (by omega), if_pos (by omega), if_neg (by omega), if_neg (by omega), show i + 1 - 2 * ws.length = 0 by omega, show i - ws.length = ws.length - 1 by omega]
          exact OK_le hbeh (by simp; omega)
theorem echo_tail {p : Nat} {c many : Int} {hp : DH} (h : PoolAt hp p c) (hc : c ≤ 2 ^ 41) (h1 : 2 ≤ many) (h2 : many ≤ 14) {x2 x3 x4 x5 x6 x7 x8 x9 x10 : Option D} :
    ∃ (r : Row) (M : Nat) (hp' : DH), fin (lp__law_echo_2 [some (.ref p), some (.int many), x2, x3, x4, x5, x6, x7, x8, x9, x10, none, none, none] hp) = .ok r.D hp' ∧ r.OK ∧ r.ws.length = 2 * M + 1 ∧ 2 ≤ M ∧ PoolAt hp' p (c + 1000) ∧ Gr p hp hp' := by
  obtain ⟨v, hp1, e1, v1, v2, p1, g1, l1⟩ := take_go h (m := 8) (by omega) (by omega) (by omega)
  obtain ⟨broad, hb, eb⟩ : ∃ broad : Int, (broad = 0 ∨ broad = 1) ∧ ∀ hp, fInt [.bl (decide (v = 7))] hp = .ok (.int broad) hp := by
    by_cases h : v = 7
    · exact ⟨1, .inr rfl, fun hp => by simp only [h, e_var, e_vget, e_c, e_op, e_op1, e_un, e_nil, e_cons, e_cons1, e_cons2, e_a0, e_ka0, e_app, e_app1, e_app2, e_tup, kT1, kT2, kT3, kT4, kT5, kT7, e_lst, kL0, kL1, kL2, kL3, kL4, kL5, e_test, e_ktest, e_and, e_andT, e_andF, e_or, e_orT, e_orF, e_not, e_knot, e_if, e_ifT, e_ifF, e_andv, e_andvT, e_andvF, e_orv, e_orvT, e_orvF, e_notv, e_knotv, e_ch, e_ch1, e_ch2, e_ch3T, e_ch3F, e_cb, e_call, e_make, e_fld, e_kfld, e_setf, e_setf1, e_setf2, e_seq, e_next, e_break, e_cont, e_expr, e_nx, e_ret, e_rt, e_retn, e_ifs, e_ifsT, e_ifsF, e_set, e_kset, e_asg, e_kasg, e_as2, e_gn, e_gtp, e_gto, e_gs0, e_gs1, e_for, e_rng1, e_rng2, e_srca, e_srcr, e_srco, e_srct, e_srcs, e_nop, e_part, e_kpart, e_sl, e_sl1, e_sl2, e_dslt, e_bm, e_kbm, e_bmo, e_add, e_sub, e_own1, e_mull, e_mulr, e_div, e_mod, e_neg, e_lt, e_gt, e_le, e_ge, e_eq, e_ne, e_eqs, e_eqb, e_ixt, e_ixs, e_ixr, e_ixo, e_ixR, at0, at1, at2, at3, at4, at5, at6, e_int, e_intT, e_intF, e_abs, e_min, e_max, e_lent, e_lens, e_lenr, e_leno, e_sumt, e_sumr, e_sumo, e_ftup, e_tupo, e_apnd, e_clr, e_clro, e_gix, e_gi1, e_gi2, e_gi0, e_giB, e_tru, e_trub, e_isi, e_isir, fin_nx, fin_rt, fin_ex, b_bind, b_st, b_nx, b_thn, b_thr, b_thb, b_thc, List.getElem?_cons_zero, List.getElem?_cons_succ, List.set_cons_zero, List.set_cons_succ, decide_true, decide_false, Bool.not_true, Bool.not_false, List.cons_append, List.nil_append, List.length_map, eq_self, Int.reduceLT, Int.reduceLE, and_self, and_true, true_and, e_comp, get_last]⟩
    · exact ⟨0, .inl rfl, fun hp => by simp only [h, e_var, e_vget, e_c, e_op, e_op1, e_un, e_nil, e_cons, e_cons1, e_cons2, e_a0, e_ka0, e_app, e_app1, e_app2, e_tup, kT1, kT2, kT3, kT4, kT5, kT7, e_lst, kL0, kL1, kL2, kL3, kL4, kL5, e_test, e_ktest, e_and, e_andT, e_andF, e_or, e_orT, e_orF, e_not, e_knot, e_if, e_ifT, e_ifF, e_andv, e_andvT, e_andvF, e_orv, e_orvT, e_orvF, e_notv, e_knotv, e_ch, e_ch1, e_ch2, e_ch3T, e_ch3F, e_cb, e_call, e_make, e_fld, e_kfld, e_setf, e_setf1, e_setf2, e_seq, e_next, e_break, e_cont, e_expr, e_nx, e_ret, e_rt, e_retn, e_ifs, e_ifsT, e_ifsF, e_set, e_kset, e_asg, e_kasg, e_as2, e_gn, e_gtp, e_gto, e_gs0, e_gs1, e_for, e_rng1, e_rng2, e_srca, e_srcr, e_srco, e_srct, e_srcs, e_nop, e_part, e_kpart, e_sl, e_sl1, e_sl2, e_dslt, e_bm, e_kbm, e_bmo, e_add, e_sub, e_own1, e_mull, e_mulr, e_div, e_mod, e_neg, e_lt, e_gt, e_le, e_ge, e_eq, e_ne, e_eqs, e_eqb, e_ixt, e_ixs, e_ixr, e_ixo, e_ixR, at0, at1, at2, at3, at4, at5, at6, e_int, e_intT, e_intF, e_abs, e_min, e_max, e_lent, e_lens, e_lenr, e_leno, e_sumt, e_sumr, e_sumo, e_ftup, e_tupo, e_apnd, e_clr, e_clro, e_gix, e_gi1, e_gi2, e_gi0, e_giB, e_tru, e_trub, e_isi, e_isir, fin_nx, fin_rt, fin_ex, b_bind, b_st, b_nx, b_thn, b_thr, b_thb, b_thc, List.getElem?_cons_zero, List.getElem?_cons_succ, List.set_cons_zero, List.set_cons_succ, decide_true, decide_false, Bool.not_true, Bool.not_false, List.cons_append, List.nil_append, List.length_map, eq_self, Int.reduceLT, Int.reduceLE, and_self, and_true, true_and, e_comp, get_last]⟩
  obtain ⟨gaps, hp2, e2, _, _, p2, g2, l2⟩ := take_go p1 (m := 2) (by omega) (by omega) (by omega)
  obtain ⟨top, it, it1, it2⟩ : ∃ t, atI [D.int 40, D.int ((9000 - 500 * many) / many)] broad = some (.int t) ∧ 1 ≤ t ∧ t ≤ 4999 := by
    rcases hb with rfl | rfl
    · exact ⟨40, at0, by omega, by omega⟩
    · refine ⟨_, at1, ?_, ?_⟩
      · rw [Int.le_ediv_iff_mul_le (by omega)]; omega
      · have : (9000 - 500 * many) / many ≤ 8000 / 2 := by
          apply Int.ediv_le_of_le_mul (by omega)
          have : (8000 : Int) / 2 = 4000 := rfl
          rw [this]; omega
        have : (8000 : Int) / 2 = 4000 := rfl
        omega
  have hr := fun hp => kRng1_ok (hp := hp) (show -4611686018427387904 ≤ many ∧ many < 4611686018427387904 by omega)
  have hr2 := fun hp => kRng1_ok (hp := hp) (show -4611686018427387904 ≤ many - 1 ∧ many - 1 < 4611686018427387904 by omega)
  have p3 := p2.app (e := [.lst [.int 40, .int ((9000 - 500 * many) / many)]])
  obtain ⟨acc, hp3, e3, hlen, ws, hws, wp, q3, g3⟩ := comp_rngI (j := 7) (lo := 0) (n := many.toNat) (own := [7]) (e := mOp dAdd (mC (.int 1)) (mCall run__law_take (mCons (mVar 0) (mCons (mVar 4) mNil)))) (env := [some (.ref p), some (.int many), some (.int broad), some (.int gaps), some (.int top), x5, x6, x7, x8, x9, x10, none, none, none])
    (hp := hp2 ++ [.lst [.int 40, .int ((9000 - 500 * many) / many)]])
    (fun i acc hp' => ∃ ws : List Int, acc = ws.map D.int ∧ (∀ k, k < ws.length → 1 ≤ ws.getD k 0 ∧ ws.getD k 0 ≤ 5000) ∧ PoolAt hp' p (c + 1 + 1 + i) ∧ Gr p (hp2 ++ [.lst [.int 40, .int ((9000 - 500 * many) / many)]]) hp')
    (by simp [sizeLine]; omega) ⟨[], rfl, fun k h => by simp at h, p3.le (by omega), Gr.refl _ _⟩ (by
      rintro i acc hp hi hlen ⟨ws, rfl, wp, pp, gg⟩
      obtain ⟨u, hp', eu, u1, u2, pu, gu, _⟩ := take_go pp (m := top) (by omega) (by omega) (by omega)
      simp only [wipeE, e_var, e_vget, e_c, e_op, e_op1, e_un, e_nil, e_cons, e_cons1, e_cons2, e_a0, e_ka0, e_app, e_app1, e_app2, e_tup, kT1, kT2, kT3, kT4, kT5, kT7, e_lst, kL0, kL1, kL2, kL3, kL4, kL5, e_test, e_ktest, e_and, e_andT, e_andF, e_or, e_orT, e_orF, e_not, e_knot, e_if, e_ifT, e_ifF, e_andv, e_andvT, e_andvF, e_orv, e_orvT, e_orvF, e_notv, e_knotv, e_ch, e_ch1, e_ch2, e_ch3T, e_ch3F, e_cb, e_call, e_make, e_fld, e_kfld, e_setf, e_setf1, e_setf2, e_seq, e_next, e_break, e_cont, e_expr, e_nx, e_ret, e_rt, e_retn, e_ifs, e_ifsT, e_ifsF, e_set, e_kset, e_asg, e_kasg, e_as2, e_gn, e_gtp, e_gto, e_gs0, e_gs1, e_for, e_rng1, e_rng2, e_srca, e_srcr, e_srco, e_srct, e_srcs, e_nop, e_part, e_kpart, e_sl, e_sl1, e_sl2, e_dslt, e_bm, e_kbm, e_bmo, e_add, e_sub, e_own1, e_mull, e_mulr, e_div, e_mod, e_neg, e_lt, e_gt, e_le, e_ge, e_eq, e_ne, e_eqs, e_eqb, e_ixt, e_ixs, e_ixr, e_ixo, e_ixR, at0, at1, at2, at3, at4, at5, at6, e_int, e_intT, e_intF, e_abs, e_min, e_max, e_lent, e_lens, e_lenr, e_leno, e_sumt, e_sumr, e_sumo, e_ftup, e_tupo, e_apnd, e_clr, e_clro, e_gix, e_gi1, e_gi2, e_gi0, e_giB, e_tru, e_trub, e_isi, e_isir, fin_nx, fin_rt, fin_ex, b_bind, b_st, b_nx, b_thn, b_thr, b_thb, b_thc, List.getElem?_cons_zero, List.getElem?_cons_succ, List.set_cons_zero, List.set_cons_succ, decide_true, decide_false, Bool.not_true, Bool.not_false, List.cons_append, List.nil_append, List.length_map, eq_self, Int.reduceLT, Int.reduceLE, and_self, and_true, true_and, e_comp, get_last, eu]
      refine ⟨_, _, rfl, ws ++ [1 + u], by simp, ?_, pu.le (by push_cast; omega), gg.trans gu⟩
      intro k hk
      by_cases e : k < ws.length
      · rw [getD_app e]; exact wp k e
      · obtain rfl : k = ws.length := by simp at hk; omega
        rw [getD_last]; omega)
  subst hws
  have hwl : ws.length = many.toNat := by simpa using hlen
  have hlt3 := q3.lt
  obtain ⟨env', hp5, e5, y7, y8, y9, y10, js, rfl, st⟩ := echo_l0 (p := p) (wd := hp3.length) (jd := (hp3 ++ [DO.lst (ws.map D.int)]).length) (c := c + 1 + 1 + many) (many := many) (broad := broad) (gaps := gaps) (top := top) (n := (many - 1).toNat) (ws := ws) (hp0 := hp3 ++ [.lst (ws.map D.int)]) (hp := (hp3 ++ [.lst (ws.map D.int)]) ++ [.lst []]) (x7 := x7) (x8 := x8) (x9 := x9) (x10 := x10)
    (by omega) hb (by omega) (by omega) (Nat.le_refl _) (by simp; omega) (by omega) get_last wp ⟨rfl, get_last, q3.app.app.le (by omega), (Px.app _ _).gr, fun k h => absurd h (by omega)⟩
  have hjl := st.len
  have hW5 := st.gr.get (n := hp3.length) get_last (by omega)
  have hJ5 := st.at_
  obtain ⟨t, hp6, e6, t1, t2, p6, g6, _⟩ := take_go st.pl (m := 40) (by omega) (by omega) (by omega)
  have hW6 := g6.get hW5 (by omega)
  have hJ6 := g6.get hJ5 (by simp; omega)
  have n0 : atI (ws.map D.int) 0 = some (.int (ws.getD 0 0)) := by
    have := at_map (f := D.int) (l := ws) (z := 0) (d := 0) (by omega) (by omega)
    simpa using this
  have n1 : atI (ws.map D.int) (-1) = some (.int (ws.getD (ws.length - 1) 0)) := at_neg (by omega)
  have hneg : ∀ hp : DH, dNeg (.int 1) hp = .ok (.int (-1)) hp := fun _ => rfl
  have w0 := wp 0 (by omega)
  have w1 := wp (ws.length - 1) (by omega)
  obtain ⟨m1, b1, hp7, e7, ok7, p7, g7⟩ := hyph_go p6 (below := min (ws.getD 0 0) (ws.getD (ws.length - 1) 0)) (broad := broad) (by omega) (by omega) (by omega) hb
  have hW7 := g7.get hW6 (by omega)
  have hJ7 := g7.get hJ6 (by simp; omega)
  obtain ⟨m2, b2, hp8, e8, ok8, p8, g8⟩ := hyph_go p7 (below := min (1 + t) (ws.getD (ws.length - 1) 0)) (broad := broad) (by omega) (by omega) (by omega) hb
  have hW8 := g8.get hW7 (by omega)
  have hJ8 := g8.get hJ7 (by simp; omega)
  generalize hjd : (hp3 ++ [DO.lst (ws.map D.int)]).length = jd at *
  generalize hW : ws.map D.int = W at *
  have hWl : W.length ≤ 14 := by rw [← hW]; simp; omega
  generalize hJ : js.map Jt.D = J at *
  have hJl : J.length ≤ 14 := by rw [← hJ]; simp; omega
  have a1 := e_addr hW8 hW8 (by omega)
  have a2 := e_addr (a := hp8.length) (b := (hp8 ++ [DO.lst (W ++ W)]).length) (hp := (hp8 ++ [DO.lst (W ++ W)]) ++ [.lst [.int (1 + t)]]) (get_app get_last) get_last (by simp; omega)
  generalize hH3 : ((hp8 ++ [DO.lst (W ++ W)]) ++ [DO.lst [.int (1 + t)]]) ++ [DO.lst ((W ++ W) ++ [.int (1 + t)])] = H3 at a2
  have px3 : Px hp8 H3 := by rw [← hH3]; exact ((Px.app _ _).trans (Px.app _ _)).trans (Px.app _ _)
  have g3t : H3[((hp8 ++ [DO.lst (W ++ W)]) ++ [DO.lst [.int (1 + t)]]).length]? = some (.lst ((W ++ W) ++ [.int (1 + t)])) := by rw [← hH3]; exact get_last
  have hJ3 := px3.get hJ8
  have a3 := e_addr (hp := H3 ++ [.lst [(Jt.hyp m1 b1).D]]) (get_app hJ3) get_last (by simp; omega)
  generalize hH5 : (H3 ++ [DO.lst [(Jt.hyp m1 b1).D]]) ++ [DO.lst (J ++ [(Jt.hyp m1 b1).D])] = H5 at a3
  have px5 : Px H3 H5 := by rw [← hH5]; exact (Px.app _ _).trans (Px.app _ _)
  have g5t : H5[(H3 ++ [DO.lst [(Jt.hyp m1 b1).D]]).length]? = some (.lst (J ++ [(Jt.hyp m1 b1).D])) := by rw [← hH5]; exact get_last
  have a4 := e_addr g5t (px5.get hJ3) (by simp; omega)
  have a5 := e_addr (hp := (H5 ++ [.lst ((J ++ [(Jt.hyp m1 b1).D]) ++ J)]) ++ [.lst [(Jt.hyp m2 b2).D]]) (a := H5.length) (b := (H5 ++ [DO.lst ((J ++ [(Jt.hyp m1 b1).D]) ++ J)]).length) (get_app get_last) get_last (by simp; omega)
  have hrow := echo_row (ws := ws) (js := js) (tail := 1 + t) (mid := .hyp m1 b1) (beh := .hyp m2 b2) (by omega) (by omega) (by omega) wp (by omega) (fun k hk => st.jp k (by omega)) ok7 ok8
  have hD : (Row.mk ((ws ++ ws) ++ [1 + t]) (((js ++ [.hyp m1 b1]) ++ js) ++ [.hyp m2 b2])).D = .tup [.tup ((W ++ W) ++ [.int (1 + t)]), .tup (((J ++ [(Jt.hyp m1 b1).D]) ++ J) ++ [(Jt.hyp m2 b2).D])] := by
    unfold Row.D; simp [← hW, ← hJ]
  have hdiv : ∀ hp, dDiv (.int (9000 - 500 * many)) (.int many) hp = .ok (.int ((9000 - 500 * many) / many)) hp := fun hp => e_div (by omega) (by omega)
  have e3' : ∀ env : En, env = [some (.ref p), some (.int many), some (.int broad), some (.int gaps), some (.int top), x5, x6, x7, x8, x9, x10, none, none, none] → kComp [7] (gN 7) mYes (mOp dAdd (mC (.int 1)) (mCall run__law_take (mCons (mVar 0) (mCons (mVar 4) mNil)))) env (.rng 0 many.toNat) (hp2 ++ [.lst [.int 40, .int ((9000 - 500 * many) / many)]]) = .ok (.ref hp3.length) (hp3 ++ [.lst W]) := fun env he => by rw [he]; exact e3
  simp only [lp__law_echo_2, e_var, e_vget, e_c, e_op, e_op1, e_un, e_nil, e_cons, e_cons1, e_cons2, e_a0, e_ka0, e_app, e_app1, e_app2, e_tup, kT1, kT2, kT3, kT4, kT5, kT7, e_lst, kL0, kL1, kL2, kL3, kL4, kL5, e_test, e_ktest, e_and, e_andT, e_andF, e_or, e_orT, e_orF, e_not, e_knot, e_if, e_ifT, e_ifF, e_andv, e_andvT, e_andvF, e_orv, e_orvT, e_orvF, e_notv, e_knotv, e_ch, e_ch1, e_ch2, e_ch3T, e_ch3F, e_cb, e_call, e_make, e_fld, e_kfld, e_setf, e_setf1, e_setf2, e_seq, e_next, e_break, e_cont, e_expr, e_nx, e_ret, e_rt, e_retn, e_ifs, e_ifsT, e_ifsF, e_set, e_kset, e_asg, e_kasg, e_as2, e_gn, e_gtp, e_gto, e_gs0, e_gs1, e_for, e_rng1, e_rng2, e_srca, e_srcr, e_srco, e_srct, e_srcs, e_nop, e_part, e_kpart, e_sl, e_sl1, e_sl2, e_dslt, e_bm, e_kbm, e_bmo, e_add, e_sub, e_own1, e_mull, e_mulr, e_div, e_mod, e_neg, e_lt, e_gt, e_le, e_ge, e_eq, e_ne, e_eqs, e_eqb, e_ixt, e_ixs, e_ixr, e_ixo, e_ixR, at0, at1, at2, at3, at4, at5, at6, e_int, e_intT, e_intF, e_abs, e_min, e_max, e_lent, e_lens, e_lenr, e_leno, e_sumt, e_sumr, e_sumo, e_ftup, e_tupo, e_apnd, e_clr, e_clro, e_gix, e_gi1, e_gi2, e_gi0, e_giB, e_tru, e_trub, e_isi, e_isir, fin_nx, fin_rt, fin_ex, b_bind, b_st, b_nx, b_thn, b_thr, b_thb, b_thc, List.getElem?_cons_zero, List.getElem?_cons_succ, List.set_cons_zero, List.set_cons_succ, decide_true, decide_false, Bool.not_true, Bool.not_false, List.cons_append, List.nil_append, List.length_map, eq_self, Int.reduceLT, Int.reduceLE, and_self, and_true, true_and, e_comp, get_last, e1, eb, e2, hdiv, it, hr, e3, hjd, hr2, e5, lp__law_echo_1, e6, hW6, n0, hneg, n1, e7, hW7, e8, a1, a2, g3t, a3, a4, a5]
  refine ⟨_, ws.length, _, congrArg (fun x => R.ok x _) hD.symm, hrow, by simp; omega, by omega, ?_, ?_⟩
  · exact (p8.px (px3.trans (px5.trans ((Px.app _ _).trans ((Px.app _ _).trans (Px.app _ _)))))).le (by omega)
  · exact g1.trans (g2.trans ((Px.app _ _).gr.trans (g3.trans ((Px.app _ _).gr.trans (st.gr.trans (g6.trans (g7.trans (g8.trans (px3.trans (px5.trans ((Px.app _ _).trans ((Px.app _ _).trans (Px.app _ _))))).gr))))))))
theorem echo_go {p : Nat} {c : Int} {hp : DH} (h : PoolAt hp p c) (hc : c ≤ 2 ^ 40) :
    ∃ (r : Row) (M : Nat) (hp' : DH), run__law_echo [.ref p] hp = .ok r.D hp' ∧ r.OK ∧ r.ws.length = 2 * M + 1 ∧ 2 ≤ M ∧ PoolAt hp' p (c + 2000) ∧ Gr p hp hp' := by
  rw [ent__law_echo]
  obtain ⟨v, hp1, e1, v1, v2, p1, g1, _⟩ := take_go (h.app (e := [.lst [.int 2, .int 3, .int 4, .int 10]])) (m := 4) (by omega) (by omega) (by omega)
  have al := g1.get (n := hp.length) get_last (by have := h.lt; omega)
  have gg := (Px.app hp [DO.lst [.int 2, .int 3, .int 4, .int 10]]).gr.trans g1
  obtain ⟨m, im, m1, m2⟩ : ∃ m, atI [D.int 2, D.int 3, D.int 4, D.int 10] v = some (.int m) ∧ 2 ≤ m ∧ m ≤ 10 := by
    obtain rfl | rfl | rfl | rfl : v = 0 ∨ v = 1 ∨ v = 2 ∨ v = 3 := by omega
    · exact ⟨_, at0, by omega, by omega⟩
    · exact ⟨_, at1, by omega, by omega⟩
    · exact ⟨_, at2, by omega, by omega⟩
    · exact ⟨_, at3, by omega, by omega⟩
  simp only [m__law_echo, e_var, e_vget, e_c, e_op, e_op1, e_un, e_nil, e_cons, e_cons1, e_cons2, e_a0, e_ka0, e_app, e_app1, e_app2, e_tup, kT1, kT2, kT3, kT4, kT5, kT7, e_lst, kL0, kL1, kL2, kL3, kL4, kL5, e_test, e_ktest, e_and, e_andT, e_andF, e_or, e_orT, e_orF, e_not, e_knot, e_if, e_ifT, e_ifF, e_andv, e_andvT, e_andvF, e_orv, e_orvT, e_orvF, e_notv, e_knotv, e_ch, e_ch1, e_ch2, e_ch3T, e_ch3F, e_cb, e_call, e_make, e_fld, e_kfld, e_setf, e_setf1, e_setf2, e_seq, e_next, e_break, e_cont, e_expr, e_nx, e_ret, e_rt, e_retn, e_ifs, e_ifsT, e_ifsF, e_set, e_kset, e_asg, e_kasg, e_as2, e_gn, e_gtp, e_gto, e_gs0, e_gs1, e_for, e_rng1, e_rng2, e_srca, e_srcr, e_srco, e_srct, e_srcs, e_nop, e_part, e_kpart, e_sl, e_sl1, e_sl2, e_dslt, e_bm, e_kbm, e_bmo, e_add, e_sub, e_own1, e_mull, e_mulr, e_div, e_mod, e_neg, e_lt, e_gt, e_le, e_ge, e_eq, e_ne, e_eqs, e_eqb, e_ixt, e_ixs, e_ixr, e_ixo, e_ixR, at0, at1, at2, at3, at4, at5, at6, e_int, e_intT, e_intF, e_abs, e_min, e_max, e_lent, e_lens, e_lenr, e_leno, e_sumt, e_sumr, e_sumo, e_ftup, e_tupo, e_apnd, e_clr, e_clro, e_gix, e_gi1, e_gi2, e_gi0, e_giB, e_tru, e_trub, e_isi, e_isir, fin_nx, fin_rt, fin_ex, b_bind, b_st, b_nx, b_thn, b_thr, b_thb, b_thc, List.getElem?_cons_zero, List.getElem?_cons_succ, List.set_cons_zero, List.set_cons_succ, decide_true, decide_false, Bool.not_true, Bool.not_false, List.cons_append, List.nil_append, List.length_map, eq_self, Int.reduceLT, Int.reduceLE, and_self, and_true, true_and, e_comp, get_last, e1, al, im]
  by_cases hm : m = 10
  · obtain ⟨u, hp2, e2, u1, u2, p2, g2, _⟩ := take_go p1 (m := 5) (by omega) (by omega) (by omega)
    simp only [hm, e_var, e_vget, e_c, e_op, e_op1, e_un, e_nil, e_cons, e_cons1, e_cons2, e_a0, e_ka0, e_app, e_app1, e_app2, e_tup, kT1, kT2, kT3, kT4, kT5, kT7, e_lst, kL0, kL1, kL2, kL3, kL4, kL5, e_test, e_ktest, e_and, e_andT, e_andF, e_or, e_orT, e_orF, e_not, e_knot, e_if, e_ifT, e_ifF, e_andv, e_andvT, e_andvF, e_orv, e_orvT, e_orvF, e_notv, e_knotv, e_ch, e_ch1, e_ch2, e_ch3T, e_ch3F, e_cb, e_call, e_make, e_fld, e_kfld, e_setf, e_setf1, e_setf2, e_seq, e_next, e_break, e_cont, e_expr, e_nx, e_ret, e_rt, e_retn, e_ifs, e_ifsT, e_ifsF, e_set, e_kset, e_asg, e_kasg, e_as2, e_gn, e_gtp, e_gto, e_gs0, e_gs1, e_for, e_rng1, e_rng2, e_srca, e_srcr, e_srco, e_srct, e_srcs, e_nop, e_part, e_kpart, e_sl, e_sl1, e_sl2, e_dslt, e_bm, e_kbm, e_bmo, e_add, e_sub, e_own1, e_mull, e_mulr, e_div, e_mod, e_neg, e_lt, e_gt, e_le, e_ge, e_eq, e_ne, e_eqs, e_eqb, e_ixt, e_ixs, e_ixr, e_ixo, e_ixR, at0, at1, at2, at3, at4, at5, at6, e_int, e_intT, e_intF, e_abs, e_min, e_max, e_lent, e_lens, e_lenr, e_leno, e_sumt, e_sumr, e_sumo, e_ftup, e_tupo, e_apnd, e_clr, e_clro, e_gix, e_gi1, e_gi2, e_gi0, e_giB, e_tru, e_trub, e_isi, e_isir, fin_nx, fin_rt, fin_ex, b_bind, b_st, b_nx, b_thn, b_thr, b_thb, b_thc, List.getElem?_cons_zero, List.getElem?_cons_succ, List.set_cons_zero, List.set_cons_succ, decide_true, decide_false, Bool.not_true, Bool.not_false, List.cons_append, List.nil_append, List.length_map, eq_self, Int.reduceLT, Int.reduceLE, and_self, and_true, true_and, e_comp, get_last, e2]
    obtain ⟨r, M, hp3, e3, ok, h3, h4, p3, g3⟩ := echo_tail p2 (many := 10 + u) (by omega) (by omega) (by omega) (x2 := none) (x3 := none) (x4 := none) (x5 := none) (x6 := none) (x7 := none) (x8 := none) (x9 := none) (x10 := none)
    exact ⟨r, M, hp3, e3, ok, h3, h4, p3.le (by omega), gg.trans (g2.trans g3)⟩
  · simp only [hm, e_var, e_vget, e_c, e_op, e_op1, e_un, e_nil, e_cons, e_cons1, e_cons2, e_a0, e_ka0, e_app, e_app1, e_app2, e_tup, kT1, kT2, kT3, kT4, kT5, kT7, e_lst, kL0, kL1, kL2, kL3, kL4, kL5, e_test, e_ktest, e_and, e_andT, e_andF, e_or, e_orT, e_orF, e_not, e_knot, e_if, e_ifT, e_ifF, e_andv, e_andvT, e_andvF, e_orv, e_orvT, e_orvF, e_notv, e_knotv, e_ch, e_ch1, e_ch2, e_ch3T, e_ch3F, e_cb, e_call, e_make, e_fld, e_kfld, e_setf, e_setf1, e_setf2, e_seq, e_next, e_break, e_cont, e_expr, e_nx, e_ret, e_rt, e_retn, e_ifs, e_ifsT, e_ifsF, e_set, e_kset, e_asg, e_kasg, e_as2, e_gn, e_gtp, e_gto, e_gs0, e_gs1, e_for, e_rng1, e_rng2, e_srca, e_srcr, e_srco, e_srct, e_srcs, e_nop, e_part, e_kpart, e_sl, e_sl1, e_sl2, e_dslt, e_bm, e_kbm, e_bmo, e_add, e_sub, e_own1, e_mull, e_mulr, e_div, e_mod, e_neg, e_lt, e_gt, e_le, e_ge, e_eq, e_ne, e_eqs, e_eqb, e_ixt, e_ixs, e_ixr, e_ixo, e_ixR, at0, at1, at2, at3, at4, at5, at6, e_int, e_intT, e_intF, e_abs, e_min, e_max, e_lent, e_lens, e_lenr, e_leno, e_sumt, e_sumr, e_sumo, e_ftup, e_tupo, e_apnd, e_clr, e_clro, e_gix, e_gi1, e_gi2, e_gi0, e_giB, e_tru, e_trub, e_isi, e_isir, fin_nx, fin_rt, fin_ex, b_bind, b_st, b_nx, b_thn, b_thr, b_thb, b_thc, List.getElem?_cons_zero, List.getElem?_cons_succ, List.set_cons_zero, List.set_cons_succ, decide_true, decide_false, Bool.not_true, Bool.not_false, List.cons_append, List.nil_append, List.length_map, eq_self, Int.reduceLT, Int.reduceLE, and_self, and_true, true_and, e_comp, get_last]
    obtain ⟨r, M, hp3, e3, ok, h3, h4, p3, g3⟩ := echo_tail p1 (many := m) (by omega) (by omega) (by omega) (x2 := none) (x3 := none) (x4 := none) (x5 := none) (x6 := none) (x7 := none) (x8 := none) (x9 := none) (x10 := none)
    exact ⟨r, M, hp3, e3, ok, h3, h4, p3.le (by omega), gg.trans g3⟩
end DL
/-! the law -/
namespace DL
open PySem PySem.Spec PyProof.Rows L2
theorem left_poss {r : Row} {s e : Nat} {k : Key} (hb : k.both = false) (hi : k.ind = 0) (hw : gW r s e ≤ k.wide) : Poss r s e k := by
  have : rest r s e k = k.wide - gW r s e := by unfold rest; rw [hi]; simp
  exact ⟨fun h => by omega, fun _ h => by rw [hb] at h; cases h⟩
def eEnv (p : Nat) (r : Row) (M : Nat) (k : Key) (wide : Int) (x5 : Option D) : En := [some (.ref p), some r.D, some (.int (M : Int)), some k.D, some (.int wide), x5, none, none, none]
theorem echoed_go {p : Nat} {c : Int} {hp : DH} (h : PoolAt hp p c) (hc : c ≤ 2 ^ 30) : ∃ hp', run__law_echoed [.ref p] hp = .ok (.bl true) hp' := by
  rw [ent__law_echoed]
  obtain ⟨r, M, hp1, e1, ok, hM1, hM2, p1, g1⟩ := echo_go h (by omega)
  have hmax := ok.max
  obtain ⟨k, hp2, e2, kk, p2, g2⟩ := key_go ok p1 (by omega)
  have hdiv : ∀ hp, dDiv (.int (r.ws.length : Int)) (.int 2) hp = .ok (.int (M : Int)) hp := fun hp => by
    rw [e_div (by omega) (by omega), hM1]
    congr 2
    omega
  have h2M : (2 : Int) * (M : Int) = ((2 * M : Nat) : Int) := by omega
  have h2M1 : ((2 * M : Nat) : Int) + 1 = ((2 * M + 1 : Nat) : Int) := by omega
  generalize hA : DO.lst [D.int 0, D.int (M : Int)] = A
  generalize hB : DO.lst [D.int (M : Int), D.int ((2 * M : Nat) : Int)] = B
  generalize hC : DO.lst [D.int (M : Int), D.int ((2 * M + 1 : Nat) : Int)] = C
  generalize ha : (hp2 ++ [A]).length = a
  generalize hb : ((hp2 ++ [A]) ++ [B]).length = b
  generalize hcc : (((hp2 ++ [A]) ++ [B]) ++ [C]).length = cc
  generalize hH : ((((hp2 ++ [A]) ++ [B]) ++ [C]) ++ [DO.lst [.ref hp2.length, .ref a, .ref b]]) = H
  have pxH : Px hp2 H := by rw [← hH]; exact ((Px.app _ _).trans (Px.app _ _)).trans ((Px.app _ _).trans (Px.app _ _))
  have gA : H[hp2.length]? = some A := by rw [← hH]; exact get_app (get_app (get_app get_last))
  have gB : H[a]? = some B := by rw [← hH, ← ha]; exact get_app (get_app get_last)
  have gC : H[b]? = some C := by rw [← hH, ← hb]; exact get_app get_last
  have gL : H[cc]? = some (DO.lst [.ref hp2.length, .ref a, .ref b]) := by rw [← hH, ← hcc]; exact get_last
  obtain ⟨env', hp3, ef, wide, x5, rfl, w0, w1, w2, px3⟩ := for_lst (j := 5) (a := cc) (b := lp__law_echoed_0) (ds := [.ref hp2.length, .ref a, .ref b]) (hp := H) (env := eEnv p r M k 0 none)
    (fun i env' hp' => ∃ (wide : Int) (x5 : Option D), env' = eEnv p r M k wide x5 ∧ (1 ≤ i → gW r 0 M ≤ wide) ∧ (2 ≤ i → gW r M (2 * M) ≤ wide) ∧ (3 ≤ i → gW r M (2 * M + 1) ≤ wide) ∧ Px H hp')
    ⟨0, none, rfl, fun h => absurd h (by omega), fun h => absurd h (by omega), fun h => absurd h (by omega), Px.refl _⟩ (fun _ _ _ h => by obtain ⟨_, _, _, _, _, _, px⟩ := h; exact px.get gL) (by
      rintro i d env hp4 hd ⟨wide, x5, rfl, w0, w1, w2, px⟩
      have qA := px.get gA
      have qB := px.get gB
      have qC := px.get gC
      have i3 : i < 3 := (List.getElem?_eq_some_iff.mp hd).1
      obtain rfl | rfl | rfl : i = 0 ∨ i = 1 ∨ i = 2 := by omega
      · obtain rfl : D.ref hp2.length = d := by simpa using hd
        have eg := glue_go ok (s := 0) (e := M) (hp := hp4) (by omega) (by omega)
        rw [Int.natCast_zero] at eg
        rw [← hA] at qA
        unfold eEnv
        simp only [lp__law_echoed_0, e_var, e_vget, e_c, e_op, e_op1, e_un, e_nil, e_cons, e_cons1, e_cons2, e_a0, e_ka0, e_app, e_app1, e_app2, e_tup, kT1, kT2, kT3, kT4, kT5, kT7, e_lst, kL0, kL1, kL2, kL3, kL4, kL5, e_test, e_ktest, e_and, e_andT, e_andF, e_or, e_orT, e_orF, e_not, e_knot, e_if, e_ifT, e_ifF, e_andv, e_andvT, e_andvF, e_orv, e_orvT, e_orvF, e_notv, e_knotv, e_ch, e_ch1, e_ch2, e_ch3T, e_ch3F, e_cb, e_call, e_make, e_fld, e_kfld, e_setf, e_setf1, e_setf2, e_seq, e_next, e_break, e_cont, e_expr, e_nx, e_ret, e_rt, e_retn, e_ifs, e_ifsT, e_ifsF, e_set, e_kset, e_asg, e_kasg, e_as2, e_gn, e_gtp, e_gto, e_gs0, e_gs1, e_for, e_rng1, e_rng2, e_srca, e_srcr, e_srco, e_srct, e_srcs, e_nop, e_part, e_kpart, e_sl, e_sl1, e_sl2, e_dslt, e_bm, e_kbm, e_bmo, e_add, e_sub, e_own1, e_mull, e_mulr, e_div, e_mod, e_neg, e_lt, e_gt, e_le, e_ge, e_eq, e_ne, e_eqs, e_eqb, e_ixt, e_ixs, e_ixr, e_ixo, e_ixR, at0, at1, at2, at3, at4, at5, at6, e_int, e_intT, e_intF, e_abs, e_min, e_max, e_lent, e_lens, e_lenr, e_leno, e_sumt, e_sumr, e_sumo, e_ftup, e_tupo, e_apnd, e_clr, e_clro, e_gix, e_gi1, e_gi2, e_gi0, e_giB, e_tru, e_trub, e_isi, e_isir, fin_nx, fin_rt, fin_ex, b_bind, b_st, b_nx, b_thn, b_thr, b_thb, b_thc, List.getElem?_cons_zero, List.getElem?_cons_succ, List.set_cons_zero, List.set_cons_succ, decide_true, decide_false, Bool.not_true, Bool.not_false, List.cons_append, List.nil_append, List.length_map, eq_self, Int.reduceLT, Int.reduceLE, and_self, and_true, true_and, e_comp, get_last, qA, eg]
        exact ⟨_, _, rfl, _, _, rfl, fun _ => by omega, fun h => absurd h (by omega), fun h => absurd h (by omega), px.trans (Px.app _ _)⟩
      · obtain rfl : D.ref a = d := by simpa using hd
        have eg := glue_go ok (s := M) (e := 2 * M) (hp := hp4) (by omega) (by omega)
        rw [← hB] at qB
        have w0 := w0 (by omega)
        unfold eEnv
        simp only [lp__law_echoed_0, e_var, e_vget, e_c, e_op, e_op1, e_un, e_nil, e_cons, e_cons1, e_cons2, e_a0, e_ka0, e_app, e_app1, e_app2, e_tup, kT1, kT2, kT3, kT4, kT5, kT7, e_lst, kL0, kL1, kL2, kL3, kL4, kL5, e_test, e_ktest, e_and, e_andT, e_andF, e_or, e_orT, e_orF, e_not, e_knot, e_if, e_ifT, e_ifF, e_andv, e_andvT, e_andvF, e_orv, e_orvT, e_orvF, e_notv, e_knotv, e_ch, e_ch1, e_ch2, e_ch3T, e_ch3F, e_cb, e_call, e_make, e_fld, e_kfld, e_setf, e_setf1, e_setf2, e_seq, e_next, e_break, e_cont, e_expr, e_nx, e_ret, e_rt, e_retn, e_ifs, e_ifsT, e_ifsF, e_set, e_kset, e_asg, e_kasg, e_as2, e_gn, e_gtp, e_gto, e_gs0, e_gs1, e_for, e_rng1, e_rng2, e_srca, e_srcr, e_srco, e_srct, e_srcs, e_nop, e_part, e_kpart, e_sl, e_sl1, e_sl2, e_dslt, e_bm, e_kbm, e_bmo, e_add, e_sub, e_own1, e_mull, e_mulr, e_div, e_mod, e_neg, e_lt, e_gt, e_le, e_ge, e_eq, e_ne, e_eqs, e_eqb, e_ixt, e_ixs, e_ixr, e_ixo, e_ixR, at0, at1, at2, at3, at4, at5, at6, e_int, e_intT, e_intF, e_abs, e_min, e_max, e_lent, e_lens, e_lenr, e_leno, e_sumt, e_sumr, e_sumo, e_ftup, e_tupo, e_apnd, e_clr, e_clro, e_gix, e_gi1, e_gi2, e_gi0, e_giB, e_tru, e_trub, e_isi, e_isir, fin_nx, fin_rt, fin_ex, b_bind, b_st, b_nx, b_thn, b_thr, b_thb, b_thc, List.getElem?_cons_zero, List.getElem?_cons_succ, List.set_cons_zero, List.set_cons_succ, decide_true, decide_false, Bool.not_true, Bool.not_false, List.cons_append, List.nil_append, List.length_map, eq_self, Int.reduceLT, Int.reduceLE, and_self, and_true, true_and, e_comp, get_last, qB, eg]
        exact ⟨_, _, rfl, _, _, rfl, fun _ => by omega, fun _ => by omega, fun h => absurd h (by omega), px.trans (Px.app _ _)⟩
      · obtain rfl : D.ref b = d := by simpa using hd
        have eg := glue_go ok (s := M) (e := 2 * M + 1) (hp := hp4) (by omega) (by omega)
        rw [← hC] at qC
        have w0 := w0 (by omega)
        have w1 := w1 (by omega)
        unfold eEnv
        simp only [lp__law_echoed_0, e_var, e_vget, e_c, e_op, e_op1, e_un, e_nil, e_cons, e_cons1, e_cons2, e_a0, e_ka0, e_app, e_app1, e_app2, e_tup, kT1, kT2, kT3, kT4, kT5, kT7, e_lst, kL0, kL1, kL2, kL3, kL4, kL5, e_test, e_ktest, e_and, e_andT, e_andF, e_or, e_orT, e_orF, e_not, e_knot, e_if, e_ifT, e_ifF, e_andv, e_andvT, e_andvF, e_orv, e_orvT, e_orvF, e_notv, e_knotv, e_ch, e_ch1, e_ch2, e_ch3T, e_ch3F, e_cb, e_call, e_make, e_fld, e_kfld, e_setf, e_setf1, e_setf2, e_seq, e_next, e_break, e_cont, e_expr, e_nx, e_ret, e_rt, e_retn, e_ifs, e_ifsT, e_ifsF, e_set, e_kset, e_asg, e_kasg, e_as2, e_gn, e_gtp, e_gto, e_gs0, e_gs1, e_for, e_rng1, e_rng2, e_srca, e_srcr, e_srco, e_srct, e_srcs, e_nop, e_part, e_kpart, e_sl, e_sl1, e_sl2, e_dslt, e_bm, e_kbm, e_bmo, e_add, e_sub, e_own1, e_mull, e_mulr, e_div, e_mod, e_neg, e_lt, e_gt, e_le, e_ge, e_eq, e_ne, e_eqs, e_eqb, e_ixt, e_ixs, e_ixr, e_ixo, e_ixR, at0, at1, at2, at3, at4, at5, at6, e_int, e_intT, e_intF, e_abs, e_min, e_max, e_lent, e_lens, e_lenr, e_leno, e_sumt, e_sumr, e_sumo, e_ftup, e_tupo, e_apnd, e_clr, e_clro, e_gix, e_gi1, e_gi2, e_gi0, e_giB, e_tru, e_trub, e_isi, e_isir, fin_nx, fin_rt, fin_ex, b_bind, b_st, b_nx, b_thn, b_thr, b_thb, b_thc, List.getElem?_cons_zero, List.getElem?_cons_succ, List.set_cons_zero, List.set_cons_succ, decide_true, decide_false, Bool.not_true, Bool.not_false, List.cons_append, List.nil_append, List.length_map, eq_self, Int.reduceLT, Int.reduceLE, and_self, and_true, true_and, e_comp, get_last, qC, eg]
        exact ⟨_, _, rfl, _, _, rfl, fun _ => by omega, fun _ => by omega, fun _ => by omega, px.trans (Px.app _ _)⟩)
  have w0 := w0 (by simp)
  have w1 := w1 (by simp)
  have w2 := w2 (by simp)
  have p3 := (p2.px pxH).px px3
  obtain ⟨v, hp5, e5, v1, v2, p5, g5, _⟩ := take_go (p3.app (e := [.lst [.int 40, .int 1400]])) (m := 8) (by omega) (by omega) (by omega)
  have al := g5.get (n := hp3.length) get_last (by have := p3.lt; omega)
  obtain ⟨mo, im, im1, im2⟩ : ∃ m, atI [D.int 40, D.int 1400] (if v = 7 then 1 else 0) = some (.int m) ∧ 1 ≤ m ∧ m ≤ 1400 := by
    by_cases h : v = 7
    · rw [if_pos h]; exact ⟨_, at1, by omega, by omega⟩
    · rw [if_neg h]; exact ⟨_, at0, by omega, by omega⟩
  obtain ⟨u, hp6, e6, u1, u2, p6, g6, _⟩ := take_go p5 (m := mo) (by omega) (by omega) (by omega)
  obtain ⟨z, hp7, e7, z1, z2, p7, g7, _⟩ := take_go p6 (m := 9999) (by omega) (by omega) (by omega)
  let k2 : Key := ⟨wide + u, 0, false, k.hy, 1 + z, k.rv, k.ls⟩
  have kk2 : k2.OK := ⟨by simp only [k2]; omega, by simp only [k2]; omega, kk.h0, kk.h1, by simp only [k2]; omega, by simp only [k2]; omega, kk.r0, kk.r1, kk.l0, kk.l1⟩
  have hk2 : k2.D = .tup [.int (wide + u), .int 0, .str "left", .int k.hy, .int (1 + z), .int k.rv, .int k.ls] := rfl
  have q1 : Poss r 0 M k2 := left_poss rfl rfl (by simp only [k2]; omega)
  have q2 : Poss r M (2 * M) k2 := left_poss rfl rfl (by simp only [k2]; omega)
  have q3 : Poss r M (2 * M + 1) k2 := left_poss rfl rfl (by simp only [k2]; omega)
  generalize hE : DO.lst [D.int ((2 * M : Nat) : Int), .int ((2 * M + 1 : Nat) : Int)] = E
  obtain ⟨env', hp8, ef2, x7, rfl, ol8, gE8⟩ := for_lst (j := 7) (a := hp7.length) (b := lp__law_echoed_1) (ds := [.int ((2 * M : Nat) : Int), .int ((2 * M + 1 : Nat) : Int)]) (hp := hp7 ++ [E]) (env := [some (.ref p), some r.D, some (.int (M : Int)), some k.D, some (.int (wide + u)), x5, some k2.D, none, none])
    (fun i env' hp' => ∃ x7 : Option D, env' = [some (.ref p), some r.D, some (.int (M : Int)), some k.D, some (.int (wide + u)), x5, some k2.D, x7, none] ∧ Ol hp7 hp' ∧ hp'[hp7.length]? = some E)
    ⟨none, rfl, (Px.app _ _).ol, get_last⟩ (fun _ _ _ h => by obtain ⟨_, _, _, g⟩ := h; rw [hE]; exact g) (by
      rintro i d env hp9 hd ⟨x7, rfl, ol, gE⟩
      have i3 : i < 2 := (List.getElem?_eq_some_iff.mp hd).1
      obtain rfl | rfl : i = 0 ∨ i = 1 := by omega
      · obtain rfl : D.int ((2 * M : Nat) : Int) = d := by simpa using hd
        obtain ⟨hp10, e10, ol10⟩ := priced_go ok kk2 (hp := hp9 ++ [.lst [.int 0, .int (M : Int), .int ((2 * M : Nat) : Int)]]) (t := hp9.length) (s := 0) (m := M) (e := 2 * M) (by omega) (by omega) (by omega) q1 q2 get_last
        simp only [lp__law_echoed_1, e_var, e_vget, e_c, e_op, e_op1, e_un, e_nil, e_cons, e_cons1, e_cons2, e_a0, e_ka0, e_app, e_app1, e_app2, e_tup, kT1, kT2, kT3, kT4, kT5, kT7, e_lst, kL0, kL1, kL2, kL3, kL4, kL5, e_test, e_ktest, e_and, e_andT, e_andF, e_or, e_orT, e_orF, e_not, e_knot, e_if, e_ifT, e_ifF, e_andv, e_andvT, e_andvF, e_orv, e_orvT, e_orvF, e_notv, e_knotv, e_ch, e_ch1, e_ch2, e_ch3T, e_ch3F, e_cb, e_call, e_make, e_fld, e_kfld, e_setf, e_setf1, e_setf2, e_seq, e_next, e_break, e_cont, e_expr, e_nx, e_ret, e_rt, e_retn, e_ifs, e_ifsT, e_ifsF, e_set, e_kset, e_asg, e_kasg, e_as2, e_gn, e_gtp, e_gto, e_gs0, e_gs1, e_for, e_rng1, e_rng2, e_srca, e_srcr, e_srco, e_srct, e_srcs, e_nop, e_part, e_kpart, e_sl, e_sl1, e_sl2, e_dslt, e_bm, e_kbm, e_bmo, e_add, e_sub, e_own1, e_mull, e_mulr, e_div, e_mod, e_neg, e_lt, e_gt, e_le, e_ge, e_eq, e_ne, e_eqs, e_eqb, e_ixt, e_ixs, e_ixr, e_ixo, e_ixR, at0, at1, at2, at3, at4, at5, at6, e_int, e_intT, e_intF, e_abs, e_min, e_max, e_lent, e_lens, e_lenr, e_leno, e_sumt, e_sumr, e_sumo, e_ftup, e_tupo, e_apnd, e_clr, e_clro, e_gix, e_gi1, e_gi2, e_gi0, e_giB, e_tru, e_trub, e_isi, e_isir, fin_nx, fin_rt, fin_ex, b_bind, b_st, b_nx, b_thn, b_thr, b_thb, b_thc, List.getElem?_cons_zero, List.getElem?_cons_succ, List.set_cons_zero, List.set_cons_succ, decide_true, decide_false, Bool.not_true, Bool.not_false, List.cons_append, List.nil_append, List.length_map, eq_self, Int.reduceLT, Int.reduceLE, and_self, and_true, true_and, e_comp, get_last, e10]
        exact ⟨_, _, rfl, _, rfl, (ol.trans (Px.app _ _).ol).trans ol10, ol10.get (get_app gE)⟩
      · obtain rfl : D.int ((2 * M + 1 : Nat) : Int) = d := by simpa using hd
        obtain ⟨hp10, e10, ol10⟩ := priced_go ok kk2 (hp := hp9 ++ [.lst [.int 0, .int (M : Int), .int ((2 * M + 1 : Nat) : Int)]]) (t := hp9.length) (s := 0) (m := M) (e := 2 * M + 1) (by omega) (by omega) (by omega) q1 q3 get_last
        simp only [lp__law_echoed_1, e_var, e_vget, e_c, e_op, e_op1, e_un, e_nil, e_cons, e_cons1, e_cons2, e_a0, e_ka0, e_app, e_app1, e_app2, e_tup, kT1, kT2, kT3, kT4, kT5, kT7, e_lst, kL0, kL1, kL2, kL3, kL4, kL5, e_test, e_ktest, e_and, e_andT, e_andF, e_or, e_orT, e_orF, e_not, e_knot, e_if, e_ifT, e_ifF, e_andv, e_andvT, e_andvF, e_orv, e_orvT, e_orvF, e_notv, e_knotv, e_ch, e_ch1, e_ch2, e_ch3T, e_ch3F, e_cb, e_call, e_make, e_fld, e_kfld, e_setf, e_setf1, e_setf2, e_seq, e_next, e_break, e_cont, e_expr, e_nx, e_ret, e_rt, e_retn, e_ifs, e_ifsT, e_ifsF, e_set, e_kset, e_asg, e_kasg, e_as2, e_gn, e_gtp, e_gto, e_gs0, e_gs1, e_for, e_rng1, e_rng2, e_srca, e_srcr, e_srco, e_srct, e_srcs, e_nop, e_part, e_kpart, e_sl, e_sl1, e_sl2, e_dslt, e_bm, e_kbm, e_bmo, e_add, e_sub, e_own1, e_mull, e_mulr, e_div, e_mod, e_neg, e_lt, e_gt, e_le, e_ge, e_eq, e_ne, e_eqs, e_eqb, e_ixt, e_ixs, e_ixr, e_ixo, e_ixR, at0, at1, at2, at3, at4, at5, at6, e_int, e_intT, e_intF, e_abs, e_min, e_max, e_lent, e_lens, e_lenr, e_leno, e_sumt, e_sumr, e_sumo, e_ftup, e_tupo, e_apnd, e_clr, e_clro, e_gix, e_gi1, e_gi2, e_gi0, e_giB, e_tru, e_trub, e_isi, e_isir, fin_nx, fin_rt, fin_ex, b_bind, b_st, b_nx, b_thn, b_thr, b_thb, b_thc, List.getElem?_cons_zero, List.getElem?_cons_succ, List.set_cons_zero, List.set_cons_succ, decide_true, decide_false, Bool.not_true, Bool.not_false, List.cons_append, List.nil_append, List.length_map, eq_self, Int.reduceLT, Int.reduceLE, and_self, and_true, true_and, e_comp, get_last, e10]
        exact ⟨_, _, rfl, _, rfl, (ol.trans (Px.app _ _).ol).trans ol10, ol10.get (get_app gE)⟩)
  obtain ⟨q, qe, qok⟩ := p7
  have p8 : PoolAt hp8 p (c + 2000 + 70 + 1 + 1 + 1) := ⟨q, ol8.get qe, qok⟩
  have p9 := p8.app (e := [.lst [.int 0, .int (M : Int), .int ((2 * M : Nat) : Int)]])
  obtain ⟨k3, hp9, e9, kk3, p10, g9⟩ := shared_go ok kk (hp := hp8 ++ [.lst [.int 0, .int (M : Int), .int ((2 * M : Nat) : Int)]]) (t := hp8.length) (s := 0) (m := M) (e := 2 * M) (by omega) (by omega) (by omega) get_last p9 (by omega)
  obtain ⟨hp10, e10, ol10⟩ := both_go ok kk3 (hp := hp9) (t := hp8.length) (s := 0) (m := M) (e := 2 * M) (by omega) (by omega) (by omega) (g9.get get_last (by have := p8.lt; omega))
  refine ⟨hp10, ?_⟩
  rw [hk2] at ef2
  unfold eEnv at ef
  simp only [Row.D, Key.D] at e1 e2 ef ef2 e9 e10
  have hsE : ∀ n hp, srcO n (some E) hp = .ok (.lst n) hp := fun n hp => by rw [← hE]; rfl
  simp only [m__law_echoed, e_var, e_vget, e_c, e_op, e_op1, e_un, e_nil, e_cons, e_cons1, e_cons2, e_a0, e_ka0, e_app, e_app1, e_app2, e_tup, kT1, kT2, kT3, kT4, kT5, kT7, e_lst, kL0, kL1, kL2, kL3, kL4, kL5, e_test, e_ktest, e_and, e_andT, e_andF, e_or, e_orT, e_orF, e_not, e_knot, e_if, e_ifT, e_ifF, e_andv, e_andvT, e_andvF, e_orv, e_orvT, e_orvF, e_notv, e_knotv, e_ch, e_ch1, e_ch2, e_ch3T, e_ch3F, e_cb, e_call, e_make, e_fld, e_kfld, e_setf, e_setf1, e_setf2, e_seq, e_next, e_break, e_cont, e_expr, e_nx, e_ret, e_rt, e_retn, e_ifs, e_ifsT, e_ifsF, e_set, e_kset, e_asg, e_kasg, e_as2, e_gn, e_gtp, e_gto, e_gs0, e_gs1, e_for, e_rng1, e_rng2, e_srca, e_srcr, e_srco, e_srct, e_srcs, e_nop, e_part, e_kpart, e_sl, e_sl1, e_sl2, e_dslt, e_bm, e_kbm, e_bmo, e_add, e_sub, e_own1, e_mull, e_mulr, e_div, e_mod, e_neg, e_lt, e_gt, e_le, e_ge, e_eq, e_ne, e_eqs, e_eqb, e_ixt, e_ixs, e_ixr, e_ixo, e_ixR, at0, at1, at2, at3, at4, at5, at6, e_int, e_intT, e_intF, e_abs, e_min, e_max, e_lent, e_lens, e_lenr, e_leno, e_sumt, e_sumr, e_sumo, e_ftup, e_tupo, e_apnd, e_clr, e_clro, e_gix, e_gi1, e_gi2, e_gi0, e_giB, e_tru, e_trub, e_isi, e_isir, fin_nx, fin_rt, fin_ex, b_bind, b_st, b_nx, b_thn, b_thr, b_thb, b_thc, List.getElem?_cons_zero, List.getElem?_cons_succ, List.set_cons_zero, List.set_cons_succ, decide_true, decide_false, Bool.not_true, Bool.not_false, List.cons_append, List.nil_append, List.length_map, eq_self, Int.reduceLT, Int.reduceLE, and_self, and_true, true_and, e_comp, get_last, e1, Row.D, hdiv, e2, Key.D, hA, h2M, hB, h2M1, hC, ha, hb, hcc, kL3, hH, gL, ef, lp__law_echoed_3, e5, e_i01, al, im, e6, e7, hE, hsE, ef2, lp__law_echoed_2, e9, e10]
def okS (ns : List Int) : Prop := ns.length ≤ 63 ∧ ∀ z ∈ ns, Builtin.Int.intBits z ≤ 1048576
theorem law_true : ∀ ns, okS ns → ∃ hp, run_law [.scr (ns.map .int)] [] = .ok (.bl true) hp := by
  intro ns hns
  rw [ent_law]
  obtain ⟨hp0, e0, p0, x0⟩ := pool_go (hp := []) (ns := ns) (i := 0) hns.1 (by omega)
  obtain ⟨r, hp1, e1, ok, hl, p1, g1⟩ := bare_go p0 (least := 2) (often := 6) (by omega) (by omega) (by omega) (by omega) (by omega)
  obtain ⟨hp2, e2, p2, x2⟩ := pool_go (hp := hp1) (ns := ns) (i := 1) hns.1 (by omega)
  obtain ⟨k, hp3, e3, kk, p3, g3⟩ := key_go ok p2 (by omega)
  obtain ⟨hp4, e4, p4, x4⟩ := pool_go (hp := hp3) (ns := ns) (i := 2) hns.1 (by omega)
  obtain ⟨s, m, e, t, hp5, e5, h1, h2, h3, ht, p5, g5, htp⟩ := three_go ok (by omega) p4 (by omega)
  obtain ⟨k2, hp6, e6, kk2, p6, g6⟩ := shared_go ok kk h1 h2 h3 ht p5 (by omega)
  obtain ⟨hp7, e7, ol7⟩ := both_go ok kk2 h1 h2 h3 (g6.get ht htp)
  obtain ⟨hp8, e8, p8, x8⟩ := pool_go (hp := hp7) (ns := ns) (i := 3) hns.1 (by omega)
  obtain ⟨hp9, e9⟩ := echoed_go p8 (by omega)
  rw [Int.natCast_zero] at e0
  rw [Int.natCast_one] at e2
  rw [show ((2 : Nat) : Int) = 2 from rfl] at e4
  rw [show ((3 : Nat) : Int) = 3 from rfl] at e8
  refine ⟨hp9, ?_⟩
  simp only [m_law, lp_law_0, e_var, e_vget, e_c, e_op, e_op1, e_un, e_nil, e_cons, e_cons1, e_cons2, e_a0, e_ka0, e_app, e_app1, e_app2, e_tup, kT1, kT2, kT3, kT4, kT5, kT7, e_lst, kL0, kL1, kL2, kL3, kL4, kL5, e_test, e_ktest, e_and, e_andT, e_andF, e_or, e_orT, e_orF, e_not, e_knot, e_if, e_ifT, e_ifF, e_andv, e_andvT, e_andvF, e_orv, e_orvT, e_orvF, e_notv, e_knotv, e_ch, e_ch1, e_ch2, e_ch3T, e_ch3F, e_cb, e_call, e_make, e_fld, e_kfld, e_setf, e_setf1, e_setf2, e_seq, e_next, e_break, e_cont, e_expr, e_nx, e_ret, e_rt, e_retn, e_ifs, e_ifsT, e_ifsF, e_set, e_kset, e_asg, e_kasg, e_as2, e_gn, e_gtp, e_gto, e_gs0, e_gs1, e_for, e_rng1, e_rng2, e_srca, e_srcr, e_srco, e_srct, e_srcs, e_nop, e_part, e_kpart, e_sl, e_sl1, e_sl2, e_dslt, e_bm, e_kbm, e_bmo, e_add, e_sub, e_own1, e_mull, e_mulr, e_div, e_mod, e_neg, e_lt, e_gt, e_le, e_ge, e_eq, e_ne, e_eqs, e_eqb, e_ixt, e_ixs, e_ixr, e_ixo, e_ixR, at0, at1, at2, at3, at4, at5, at6, e_int, e_intT, e_intF, e_abs, e_min, e_max, e_lent, e_lens, e_lenr, e_leno, e_sumt, e_sumr, e_sumo, e_ftup, e_tupo, e_apnd, e_clr, e_clro, e_gix, e_gi1, e_gi2, e_gi0, e_giB, e_tru, e_trub, e_isi, e_isir, fin_nx, fin_rt, fin_ex, b_bind, b_st, b_nx, b_thn, b_thr, b_thb, b_thc, List.getElem?_cons_zero, List.getElem?_cons_succ, List.set_cons_zero, List.set_cons_succ, decide_true, decide_false, Bool.not_true, Bool.not_false, List.cons_append, List.nil_append, List.length_map, eq_self, Int.reduceLT, Int.reduceLE, and_self, and_true, true_and, e_comp, get_last, e0, e1, e2, e3, e4, e5, e6, e7, e8, e9]
end DL
open PySem PySem.W PyProof.Rows
set_option maxRecDepth 100000 in
set_option maxHeartbeats 0 in
theorem PySem.Challenge.cw_pagestyles_k53_rivers_and_twins_holds : PySem.Challenge.rw_pagestyles_k53_rivers_and_twins.Holds := by
  w_on; o_law; k_head; (case hw => w_witness2)
  k_fill
  refine L2.walk_ofB (l := PySem.Challenge.rw_pagestyles_k53_rivers_and_twins) (n := 63) (k := 12) (x := "script") (CX := fun w => L2.CX PySem.Challenge.rw_pagestyles_k53_rivers_and_twins.prog w) (sp := fun w => DL.spLaw _ DL.okS) rfl (by decide) rfl ⟨rfl, by decide, by decide⟩ (fun w h Y => PySem.W.kIn_of Y) ?F (fun _ H a ns hl hb hO hS => ⟨a, ns, rfl, hO, hS, ⟨hl, hb⟩, fun _ => rfl⟩) (fun _ _ _ _ _ h => DL.cx_no h)
  case F =>
    intro w mg fa h KX G hmg
    refine' (DL.all_mk KX G ?aC_Glue ?p1_Glue ?p2_Glue ?p3_Glue ?p4_Glue ?aC_Measure ?p1_Measure ?p2_Measure ?p3_Measure ?p4_Measure ?a1__law_take ?l1__law_take ?c1__law_take ?k1__law_take ?a1__law_joint ?l1__law_joint ?c1__law_joint ?k1__law_joint ?a1__law_bare ?l1__law_bare ?c1__law_bare ?k1__law_bare ?a1__law_glue ?l1__law_glue ?c1__law_glue ?k1__law_glue ?a1__law_possible ?l1__law_possible ?c1__law_possible ?k1__law_possible ?a1_Measure_init ?i1_Measure_init ?l1_Measure_init ?c1_Measure_init ?k1_Measure_init ?w1_Measure_init_indent ?w2_Measure_init_indent ?w1_Measure_init_align ?w2_Measure_init_align ?w1_Measure_init_hyphen ?w2_Measure_init_hyphen ?w1_Measure_init_twin ?w2_Measure_init_twin ?w1_Measure_init_river ?w2_Measure_init_river ?w1_Measure_init_loose ?w2_Measure_init_loose ?s0_Measure_of ?s1_Measure_of ?s2_Measure_of ?s3_Measure_of ?s4_Measure_of ?l1_Measure_of ?c1_Measure_of ?k1_Measure_of ?a1__law_is_integer ?l1__law_is_integer ?c1__law_is_integer ?k1__law_is_integer ?a1__law_overlap ?l1__law_overlap ?c1__law_overlap ?k1__law_overlap ?a1__law_meet ?l1__law_meet ?c1__law_meet ?k1__law_meet ?a1__law_spans ?l1__law_spans ?c1__law_spans ?k1__law_spans ?a1__law_twin ?l1__law_twin ?c1__law_twin ?k1__law_twin ?a1_count_overlapping ?l1_count_overlapping ?c1_count_overlapping ?k1_count_overlapping ?a1_Glue_init ?i1_Glue_init ?l1_Glue_init ?c1_Glue_init ?k1_Glue_init ?a1_Glue_add ?i1_Glue_add ?l1_Glue_add ?c1_Glue_add ?k1_Glue_add ?a1_Glue_sub ?i1_Glue_sub ?l1_Glue_sub ?c1_Glue_sub ?k1_Glue_sub ?a1_extra_of ?l1_extra_of ?c1_extra_of ?k1_extra_of ?a1_joint_glue ?l1_joint_glue ?c1_joint_glue ?k1_joint_glue ?a1_extended_glue ?l1_extended_glue ?c1_extended_glue ?k1_extended_glue ?a1_ends_at_hyphen ?l1_ends_at_hyphen ?c1_ends_at_hyphen ?k1_ends_at_hyphen ?a1_finished_glue ?l1_finished_glue ?c1_finished_glue ?k1_finished_glue ?a1_line_glue ?l1_line_glue ?c1_line_glue ?k1_line_glue ?a1_room_of ?l1_room_of ?c1_room_of ?k1_room_of ?a1_box_places ?l1_box_places ?c1_box_places ?k1_box_places ?a1_gap_spans ?l1_gap_spans ?c1_gap_spans ?k1_gap_spans ?a1_price_with_count ?l1_price_with_count ?c1_price_with_count ?k1_price_with_count ?a1_pair_price ?l1_pair_price ?c1_pair_price ?k1_pair_price ?a1__law_priced ?l1__law_priced ?c1__law_priced ?k1__law_priced ?a1__law_both ?l1__law_both ?c1__law_both ?k1__law_both ?a1__law_hyphen ?l1__law_hyphen ?c1__law_hyphen ?k1__law_hyphen ?a1__law_echo ?l1__law_echo ?c1__law_echo ?k1__law_echo ?a1__law_line_key ?l1__law_line_key ?c1__law_line_key ?k1__law_line_key ?a1__law_shared ?l1__law_shared ?c1__law_shared ?k1__law_shared ?a1__law_echoed ?l1__law_echoed ?c1__law_echoed ?k1__law_echoed ?a1__law_pool ?l1__law_pool ?c1__law_pool ?k1__law_pool ?a1__law_three ?l1__law_three ?c1__law_three ?k1__law_three ?a1_law ?l1_law ?c1_law ?k1_law ?m1_Glue ?m2_Glue ?m1_Measure ?m2_Measure ?o1_Glue_add ?o1_Glue_sub ?n1_align_Measure ?n1_hyphen_Measure ?n1_indent_Measure ?n1_loose_Measure ?n1_river_Measure ?n1_shrink_Glue ?n1_stretch_Glue ?n1_twin_Measure ?n1_width_Measure ?n1_width_Glue ?e1_Glue ?e2_Glue ?e3_Glue ?e4_Glue ?e5_Glue ?e6_Glue ?e7_Glue ?z1_abs ?z1_bool ?z1_int ?z1_isinstance ?z1_len ?z1_max ?z1_min ?z1_range ?z1_sum ?z1_tuple).elim fun T => DL.law_fin T hmg DL.law_true
    (case aC_Glue => k_is)
    (case p1_Glue => k_is)
    (case p2_Glue => k_is)
    (case p3_Glue => k_is)
    (case p4_Glue => k_is)
    (case aC_Measure => k_is)
    (case p1_Measure => k_is)
    (case p2_Measure => k_is)
    (case p3_Measure => k_is)
    (case p4_Measure => k_is)
    (case a1__law_take => k_is)
    (case l1__law_take => k_is)
    (case c1__law_take => k_is)
    (case k1__law_take => k_is)
    (case a1__law_joint => k_is)
    (case l1__law_joint => k_is)
    (case c1__law_joint => k_is)
    (case k1__law_joint => k_is)
    (case a1__law_bare => k_is)
    (case l1__law_bare => k_is)
    (case c1__law_bare => k_is)
    (case k1__law_bare => k_is)
    (case a1__law_glue => k_is)
    (case l1__law_glue => k_is)
    (case c1__law_glue => k_is)
    (case k1__law_glue => k_is)
    (case a1__law_possible => k_is)
    (case l1__law_possible => k_is)
    (case c1__law_possible => k_is)
    (case k1__law_possible => k_is)
    (case a1_Measure_init => k_is)
    (case i1_Measure_init => k_is)
    (case l1_Measure_init => k_is)
    (case c1_Measure_init => k_is)
    (case k1_Measure_init => k_is)
    (case w1_Measure_init_indent => k_is)
    (case w2_Measure_init_indent => first | exact ⟨_, rfl⟩ | rfl)
    (case w1_Measure_init_align => k_is)
    (case w2_Measure_init_align => first | exact ⟨_, rfl⟩ | rfl)
    (case w1_Measure_init_hyphen => k_is)
    (case w2_Measure_init_hyphen => first | exact ⟨_, rfl⟩ | rfl)
    (case w1_Measure_init_twin => k_is)
    (case w2_Measure_init_twin => first | exact ⟨_, rfl⟩ | rfl)
    (case w1_Measure_init_river => k_is)
    (case w2_Measure_init_river => first | exact ⟨_, rfl⟩ | rfl)
    (case w1_Measure_init_loose => k_is)
    (case w2_Measure_init_loose => first | exact ⟨_, rfl⟩ | rfl)
    (case s0_Measure_of => k_is)
    (case s1_Measure_of => k_is)
    (case s2_Measure_of => k_is)
    (case s3_Measure_of => k_is)
    (case s4_Measure_of => k_is)
    (case l1_Measure_of => k_is)
    (case c1_Measure_of => k_is)
    (case k1_Measure_of => k_is)
    (case a1__law_is_integer => k_is)
    (case l1__law_is_integer => k_is)
    (case c1__law_is_integer => k_is)
    (case k1__law_is_integer => k_is)
    (case a1__law_overlap => k_is)
    (case l1__law_overlap => k_is)
    (case c1__law_overlap => k_is)
    (case k1__law_overlap => k_is)
    (case a1__law_meet => k_is)
    (case l1__law_meet => k_is)
    (case c1__law_meet => k_is)
    (case k1__law_meet => k_is)
    (case a1__law_spans => k_is)
    (case l1__law_spans => k_is)
    (case c1__law_spans => k_is)
    (case k1__law_spans => k_is)
    (case a1__law_twin => k_is)
    (case l1__law_twin => k_is)
    (case c1__law_twin => k_is)
    (case k1__law_twin => k_is)
    (case a1_count_overlapping => k_is)
    (case l1_count_overlapping => k_is)
    (case c1_count_overlapping => k_is)
    (case k1_count_overlapping => k_is)
    (case a1_Glue_init => k_is)
    (case i1_Glue_init => k_is)
    (case l1_Glue_init => k_is)
    (case c1_Glue_init => k_is)
    (case k1_Glue_init => k_is)
    (case a1_Glue_add => k_is)
    (case i1_Glue_add => k_is)
    (case l1_Glue_add => k_is)
    (case c1_Glue_add => k_is)
    (case k1_Glue_add => k_is)
    (case a1_Glue_sub => k_is)
    (case i1_Glue_sub => k_is)
    (case l1_Glue_sub => k_is)
    (case c1_Glue_sub => k_is)
    (case k1_Glue_sub => k_is)
    (case a1_extra_of => k_is)
    (case l1_extra_of => k_is)
    (case c1_extra_of => k_is)
    (case k1_extra_of => k_is)
    (case a1_joint_glue => k_is)
    (case l1_joint_glue => k_is)
    (case c1_joint_glue => k_is)
    (case k1_joint_glue => k_is)
    (case a1_extended_glue => k_is)
    (case l1_extended_glue => k_is)
    (case c1_extended_glue => k_is)
    (case k1_extended_glue => k_is)
    (case a1_ends_at_hyphen => k_is)
    (case l1_ends_at_hyphen => k_is)
    (case c1_ends_at_hyphen => k_is)
    (case k1_ends_at_hyphen => k_is)
    (case a1_finished_glue => k_is)
    (case l1_finished_glue => k_is)
    (case c1_finished_glue => k_is)
    (case k1_finished_glue => k_is)
    (case a1_line_glue => k_is)
    (case l1_line_glue => k_is)
    (case c1_line_glue => k_is)
    (case k1_line_glue => k_is)
    (case a1_room_of => k_is)
    (case l1_room_of => k_is)
    (case c1_room_of => k_is)
    (case k1_room_of => k_is)
    (case a1_box_places => k_is)
    (case l1_box_places => k_is)
    (case c1_box_places => k_is)
    (case k1_box_places => k_is)
    (case a1_gap_spans => k_is)
    (case l1_gap_spans => k_is)
    (case c1_gap_spans => k_is)
    (case k1_gap_spans => k_is)
    (case a1_price_with_count => k_is)
    (case l1_price_with_count => k_is)
    (case c1_price_with_count => k_is)
    (case k1_price_with_count => k_is)
    (case a1_pair_price => k_is)
    (case l1_pair_price => k_is)
    (case c1_pair_price => k_is)
    (case k1_pair_price => k_is)
    (case a1__law_priced => k_is)
    (case l1__law_priced => k_is)
    (case c1__law_priced => k_is)
    (case k1__law_priced => k_is)
    (case a1__law_both => k_is)
    (case l1__law_both => k_is)
    (case c1__law_both => k_is)
    (case k1__law_both => k_is)
    (case a1__law_hyphen => k_is)
    (case l1__law_hyphen => k_is)
    (case c1__law_hyphen => k_is)
    (case k1__law_hyphen => k_is)
    (case a1__law_echo => k_is)
    (case l1__law_echo => k_is)
    (case c1__law_echo => k_is)
    (case k1__law_echo => k_is)
    (case a1__law_line_key => k_is)
    (case l1__law_line_key => k_is)
    (case c1__law_line_key => k_is)
    (case k1__law_line_key => k_is)
    (case a1__law_shared => k_is)
    (case l1__law_shared => k_is)
    (case c1__law_shared => k_is)
    (case k1__law_shared => k_is)
    (case a1__law_echoed => k_is)
    (case l1__law_echoed => k_is)
    (case c1__law_echoed => k_is)
    (case k1__law_echoed => k_is)
    (case a1__law_pool => k_is)
    (case l1__law_pool => k_is)
    (case c1__law_pool => k_is)
    (case k1__law_pool => k_is)
    (case a1__law_three => k_is)
    (case l1__law_three => k_is)
    (case c1__law_three => k_is)
    (case k1__law_three => k_is)
    (case a1_law => k_is)
    (case l1_law => k_is)
    (case c1_law => k_is)
    (case k1_law => k_is)
    (case m1_Glue => k_is)
    (case m2_Glue => k_is)
    (case m1_Measure => k_is)
    (case m2_Measure => k_is)
    (case o1_Glue_add => k_is)
    (case o1_Glue_sub => k_is)
    (case n1_align_Measure => k_is)
    (case n1_hyphen_Measure => k_is)
    (case n1_indent_Measure => k_is)
    (case n1_loose_Measure => k_is)
    (case n1_river_Measure => k_is)
    (case n1_shrink_Glue => k_is)
    (case n1_stretch_Glue => k_is)
    (case n1_twin_Measure => k_is)
    (case n1_width_Measure => k_is)
    (case n1_width_Glue => k_is)
    (case e1_Glue => kit_is)
    (case e2_Glue => kit_is)
    (case e3_Glue => kit_is)
    (case e4_Glue => k_is)
    (case e5_Glue => k_is)
    (case e6_Glue => k_is)
    (case e7_Glue => k_is)
    (case z1_abs => k_is)
    (case z1_bool => k_is)
    (case z1_int => k_is)
    (case z1_isinstance => k_is)
    (case z1_len => k_is)
    (case z1_max => k_is)
    (case z1_min => k_is)
    (case z1_range => k_is)
    (case z1_sum => k_is)
    (case z1_tuple => k_is)
