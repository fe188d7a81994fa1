import PyProof.Rows.All
import Wide.All
import OpenK.AllK
import Wide.FinOn
import HandS.ForMost
import HandS.Wide
import HandS.WideBits
import HandS.IsInst
import HandS.Flow
import HandS.Deep
import HandS.Exc
import HandS.Star
import HandS.SortInts
import HandS.Flt
import HandS.RaiseMore
import PyProof.ReprReads
import PyProof.ReprRoads
import HandS.Style
import HandS.Defaults
import HandS.Ends
import HandS.Words
import HandS.Codes
import KE.BitLaws
import KE.OsRunLaw
import PySem.Challenge.RW_startbits_k03_levels_of_texts
set_option Elab.async false
set_option linter.all false
set_option maxRecDepth 100000
set_option maxHeartbeats 4000000
/-! E0: data semantics: values as data trees, own lists in cells; states, results; the relation to the abstract heap. -/
namespace E
open PySem PySem.Spec PyProof.Rows L2

abbrev D := PyData
abbrev St := L2.St
/-- a value: data (never changed again), or the list in a cell -/
inductive R where
  | sh (d : D)
  | own (c : Nat)
/-- a cell: nothing, a list that may change, a list that is fixed, a list that is walked just now -/
inductive Cell where
  | dead
  | lv (ds : List D)
  | fz (ds : List D)
  | lk (ds : List D)
structure S where
  sl : List (Option R)
  ce : List Cell
  np : Nat
/-- an exception: its class, its fields -/
structure Ex where
  cls : String
  fs : List (Str × D)
inductive Res (α : Type) where
  | ok (a : α) (s : S)
  | exc (x : Ex) (s : S)
  | bad
def Res.bind {α β : Type} (r : Res α) (f : α → S → Res β) : Res β :=
  match r with
  | .ok a s => f a s
  | .exc x s => .exc x s
  | .bad => .bad
@[simp] theorem Res.bind_ok {α β : Type} (a : α) (s : S) (f : α → S → Res β) : (Res.ok a s).bind f = f a s := rfl
@[simp] theorem Res.bind_exc {α β : Type} (x : Ex) (s : S) (f : α → S → Res β) : (Res.exc x s : Res α).bind f = .exc x s := rfl
@[simp] theorem Res.bind_bad {α β : Type} (f : α → S → Res β) : (Res.bad : Res α).bind f = .bad := rfl
inductive Fl where
  | nx | bk | ct
  | rt (r : R)
abbrev ES := S → Res R
abbrev TS' := S → Res Bool
abbrev AS := S → Res (List R)
abbrev SS := S → Res Fl

/-! ### the relation -/
section
variable (K : PySem.W.Frag) (Z : Addr → Prop) (H : Hp)
/-- a list that is to be read -/
def LstA (a : Addr) (xs : List V) : Prop :=
  H a = some (.lst xs) ∨ (∃ o, H a = some (.frz o (.lst xs))) ∨
    ∃ (its : List Value) (n : Nat), K.lookup a = some { cls := .type "list", data := .seq its.toArray n } ∧ xs.length ≤ sizeLine ∧ Vals xs its
/-- a list that will not change -/
def LstZ (a : Addr) (xs : List V) : Prop :=
  (Z a ∧ H a = some (.lst xs)) ∨ (∃ o, H a = some (.frz o (.lst xs))) ∨
    ∃ (its : List Value) (n : Nat), K.lookup a = some { cls := .type "list", data := .seq its.toArray n } ∧ xs.length ≤ sizeLine ∧ Vals xs its
mutual
inductive Den : V → D → Prop
  | non : Den .non .none
  | bl (b : Bool) : Den (.bl b) (.bool b)
  | int (i : Int) : Den (.int i) (.int i)
  | str (x : Str) : Den (.str x) (.str x)
  | lst {a : Addr} {xs : List V} {ds : List D} : LstZ K Z H a xs → Dens xs ds → Den (.ref a) (.list ds)
  | tup {a : Addr} {xs : List V} {ds : List D} : SqT K H a xs → Dens xs ds → Den (.ref a) (.tuple ds)
inductive Dens : List V → List D → Prop
  | nil : Dens [] []
  | cons {v : V} {vs : List V} {d : D} {ds : List D} : Den v d → Dens vs ds → Dens (v :: vs) (d :: ds)
end
end
/-- heaps: all that data leans on stays -/
structure Stay (Z : Addr → Prop) (H : Hp) (Z' : Addr → Prop) (H' : Hp) : Prop where
  z : ∀ a, Z a → Z' a
  l : ∀ a xs, Z a → H a = some (.lst xs) → H' a = some (.lst xs)
  t : ∀ a xs, H a = some (.tup xs) → H' a = some (.tup xs)
  f : ∀ a o u, H a = some (.frz o u) → H' a = some (.frz o u)
section
variable {K : PySem.W.Frag} {Z Z' : Addr → Prop} {H H' : Hp}
theorem LstZ.stay (y : Stay Z H Z' H') {a : Addr} {xs : List V} (h : LstZ K Z H a xs) : LstZ K Z' H' a xs := by
  rcases h with ⟨h1, h2⟩ | ⟨o, h⟩ | h
  · exact .inl ⟨y.z _ h1, y.l _ _ h1 h2⟩
  · exact .inr (.inl ⟨o, y.f _ _ _ h⟩)
  · exact .inr (.inr h)
theorem SqT.stay (y : Stay Z H Z' H') {a : Addr} {xs : List V} (h : SqT K H a xs) : SqT K H' a xs := by
  rcases h with (h | ⟨o, h⟩) | h
  · exact .inl (.inl (y.t _ _ h))
  · exact .inl (.inr ⟨o, y.f _ _ _ h⟩)
  · exact .inr h
theorem LstZ.any {a : Addr} {xs : List V} (h : LstZ K Z H a xs) : LstA K H a xs := by
  rcases h with ⟨_, h⟩ | h | h
  · exact .inl h
  · exact .inr (.inl h)
  · exact .inr (.inr h)
theorem LstA.sq {a : Addr} {xs : List V} (h : LstA K H a xs) : SqL K H a xs := by
  rcases h with h | ⟨o, h⟩ | ⟨its, n, h, hz, hv⟩
  · exact .inl (.inl h)
  · exact .inl (.inr ⟨o, h⟩)
  · exact .inr ⟨_, its.toArray, n, h, rfl, rfl, rfl, by rw [List.size_toArray, ← hv.length]; exact hz, by simpa using hv⟩
theorem LstZ.sq {a : Addr} {xs : List V} (h : LstZ K Z H a xs) : SqL K H a xs := h.any.sq
/-- as the heap has it -/
theorem LstA.obj {X : Cx} {pins : List (Addr × Obj)} {σ : St} {s : Shared} (I : Inv X pins σ H s) {a : Addr} {xs : List V} (h : LstA X.K H a xs) :
    xs.length ≤ sizeLine ∧ ∃ (its : List Value) (n : Nat), Vals xs its ∧ s.heap.get? a = some { cls := .type "list", data := .seq its.toArray n } := by
  rcases h with h | ⟨o, h⟩ | ⟨its, n, h, hz, hv⟩
  · exact I.hok a _ h
  · exact (I.hok a _ h).2
  · exact ⟨hz, its, n, hv, I.kIn a _ h⟩
mutual
theorem Den.stay (y : Stay Z H Z' H') : ∀ {v : V} {d : D}, Den K Z H v d → Den K Z' H' v d
  | _, _, .non => .non
  | _, _, .bl b => .bl b
  | _, _, .int i => .int i
  | _, _, .str x => .str x
  | _, _, .lst h ha => .lst (LstZ.stay y h) (Dens.stay y ha)
  | _, _, .tup h ha => .tup (SqT.stay y h) (Dens.stay y ha)
theorem Dens.stay (y : Stay Z H Z' H') : ∀ {vs : List V} {ds : List D}, Dens K Z H vs ds → Dens K Z' H' vs ds
  | _, _, .nil => .nil
  | _, _, .cons h t => .cons (Den.stay y h) (Dens.stay y t)
end
mutual
theorem Den.dp : ∀ {v : V} {d : D}, Den K Z H v d → Dp K H v d
  | _, _, .non => .non
  | _, _, .bl b => .bl b
  | _, _, .int i => .int i
  | _, _, .str x => .str x
  | _, _, .lst h ha => .lst (LstZ.sq h) (Dens.dp ha)
  | _, _, .tup h ha => .tup h (Dens.dp ha)
theorem Dens.dp : ∀ {vs : List V} {ds : List D}, Dens K Z H vs ds → DpAll K H vs ds
  | _, _, .nil => .nil
  | _, _, .cons h t => .cons (Den.dp h) (Dens.dp t)
end
theorem Dens.length : ∀ {vs : List V} {ds : List D}, Dens K Z H vs ds → vs.length = ds.length
  | _, _, .nil => rfl
  | _, _, .cons _ t => by simp [Dens.length t]
theorem Dens.get : ∀ {vs : List V} {ds : List D} {i : Nat} {d : D}, Dens K Z H vs ds → ds[i]? = some d → ∃ v, vs[i]? = some v ∧ Den K Z H v d
  | _, _, _, _, .nil, e => by simp at e
  | _, _, 0, _, .cons h _, e => by simp at e; subst e; exact ⟨_, rfl, h⟩
  | _, _, i + 1, d, .cons _ t, e => by
    obtain ⟨v, h1, h2⟩ := Dens.get (i := i) (d := d) t (by simpa using e)
    exact ⟨v, by simpa using h1, h2⟩
theorem Dens.getV : ∀ {vs : List V} {ds : List D} {i : Nat} {v : V}, Dens K Z H vs ds → vs[i]? = some v → ∃ d, ds[i]? = some d ∧ Den K Z H v d
  | _, _, _, _, .nil, e => by simp at e
  | _, _, 0, _, .cons h _, e => by simp at e; subst e; exact ⟨_, rfl, h⟩
  | _, _, i + 1, v, .cons _ t, e => by
    obtain ⟨d, h1, h2⟩ := Dens.getV (i := i) (v := v) t (by simpa using e)
    exact ⟨d, by simpa using h1, h2⟩
theorem Dens.append : ∀ {vs : List V} {ds : List D} {ws : List V} {es : List D}, Dens K Z H vs ds → Dens K Z H ws es → Dens K Z H (vs ++ ws) (ds ++ es)
  | _, _, _, _, .nil, q => q
  | _, _, _, _, .cons h t, q => .cons h (Dens.append t q)
theorem Dens.take : ∀ {vs : List V} {ds : List D} (n : Nat), Dens K Z H vs ds → Dens K Z H (vs.take n) (ds.take n)
  | _, _, 0, _ => .nil
  | _, _, _ + 1, .nil => .nil
  | _, _, n + 1, .cons h t => .cons h (Dens.take n t)
theorem Dens.drop : ∀ {vs : List V} {ds : List D} (n : Nat), Dens K Z H vs ds → Dens K Z H (vs.drop n) (ds.drop n)
  | _, _, 0, h => h
  | _, _, _ + 1, .nil => .nil
  | _, _, n + 1, .cons h t => Dens.drop n t
theorem Dens.set : ∀ {vs : List V} {ds : List D} (i : Nat) {v : V} {d : D}, Dens K Z H vs ds → Den K Z H v d → Dens K Z H (vs.set i v) (ds.set i d)
  | _, _, _, _, _, .nil, _ => .nil
  | _, _, 0, _, _, .cons _ t, q => .cons q t
  | _, _, i + 1, _, _, .cons h t, q => .cons h (Dens.set i t q)
theorem Dens.reverse : ∀ {vs : List V} {ds : List D}, Dens K Z H vs ds → Dens K Z H vs.reverse ds.reverse
  | _, _, .nil => .nil
  | _, _, .cons h t => by
    rw [List.reverse_cons, List.reverse_cons]
    exact Dens.append (Dens.reverse t) (.cons h .nil)
theorem Dens.map_int : ∀ ns : List Int, Dens K Z H (ns.map V.int) (ns.map PyData.int)
  | [] => .nil
  | n :: r => .cons (.int n) (Dens.map_int r)
end

/-- where the frozen lists and the cells' lists lie -/
structure Wd where
  Z : Addr → Prop
  ρ : Nat → Addr
def CellR (K : PySem.W.Frag) (Z : Addr → Prop) (H : Hp) (a : Addr) : Cell → Prop
  | .dead => True
  | .lv ds => ¬ Z a ∧ ∃ xs, H a = some (.lst xs) ∧ Dens K Z H xs ds
  | .fz ds => Z a ∧ ∃ xs, H a = some (.lst xs) ∧ Dens K Z H xs ds
  | .lk ds => ¬ Z a ∧ ∃ xs, H a = some (.lst xs) ∧ Dens K Z H xs ds
def Cell.open? : Cell → Option (List D)
  | .lv ds => some ds
  | .lk ds => some ds
  | _ => none
def RR (K : PySem.W.Frag) (w : Wd) (n : Nat) (H : Hp) (v : V) : R → Prop
  | .sh d => Den K w.Z H v d
  | .own c => v = .ref (w.ρ c) ∧ c < n
structure StR (K : PySem.W.Frag) (w : Wd) (s : S) (σ : St) (H : Hp) : Prop where
  cl : ∀ (i : Nat) (c : Cell), s.ce[i]? = some c → CellR K w.Z H (w.ρ i) c
  inj : ∀ (i j : Nat) (x y : Cell), s.ce[i]? = some x → s.ce[j]? = some y → x.open?.isSome = true → y.open?.isSome = true → w.ρ i = w.ρ j → i = j
  sl : ∀ (i : Nat) (r : R), s.sl[i]? = some (some r) → ∃ v : V, σ[i]? = some (some v) ∧ RR K w s.ce.length H v r
  sn : s.sl.length ≤ σ.length
  zt : ∀ a, w.Z a → ∃ xs, H a = some (.lst xs)
  sb : ∀ (i c : Nat), s.sl[i]? = some (some (.own c)) → c < s.np + s.sl.length
  bs : s.np + s.sl.length ≤ s.ce.length
  lb : ∀ (i : Nat) (ds : List D), s.ce[i]? = some (.lk ds) → i < s.np + s.sl.length
def Live (w : Wd) (s : S) (a : Addr) : Prop := ∃ (i : Nat) (ds : List D), s.ce[i]? = some (.lv ds) ∧ w.ρ i = a
/-- from one state to a later one: p places of the cells keep their addresses -/
structure Ext (p : Nat) (w : Wd) (s : S) (H : Hp) (w' : Wd) (s' : S) (H' : Hp) : Prop where
  z : ∀ a, w.Z a → w'.Z a
  zn : ∀ a, w'.Z a → w.Z a ∨ H a = none ∨ Live w s a
  k : ∀ a o, H a = some o → ¬ Live w s a → H' a = some o
  lz : ∀ a, Live w' s' a → Live w s a ∨ H a = none
  pr : ∀ i, i < p → w'.ρ i = w.ρ i
  ln : p ≤ s'.ce.length
  lk : ∀ (i : Nat) (ds : List D), s.ce[i]? = some (.lk ds) → s'.ce[i]? = some (.lk ds) ∧ w'.ρ i = w.ρ i
  nq : s'.np = s.np
  sq : s'.sl.length = s.sl.length

section
variable {K : PySem.W.Frag} {w w' w₂ : Wd} {s s' s₂ : S} {H H' H₂ : Hp} {σ : St} {p q : Nat}
theorem Ext.refl (hp : p ≤ s.ce.length) : Ext p w s H w s H := ⟨fun _ h => h, fun _ h => .inl h, fun _ _ h _ => h, fun _ h => .inl h, fun _ _ => rfl, hp, fun _ _ h => ⟨h, rfl⟩, rfl, rfl⟩
theorem Ext.none_back (e : Ext p w s H w' s' H') {a : Addr} (h : H' a = none) : H a = none ∨ Live w s a := by
  cases q : H a with
  | none => exact .inl rfl
  | some o =>
    by_cases hl : Live w s a
    · exact .inr hl
    · rw [e.k a o q hl] at h; cases h
theorem Ext.trans (e : Ext p w s H w' s' H') (f : Ext q w' s' H' w₂ s₂ H₂) (hpq : p ≤ q) : Ext p w s H w₂ s₂ H₂ where
  z := fun a h => f.z a (e.z a h)
  zn := fun a h => by
    rcases f.zn a h with h | h | h
    · exact e.zn a h
    · rcases e.none_back h with h | h
      · exact .inr (.inl h)
      · exact .inr (.inr h)
    · rcases e.lz a h with h | h
      · exact .inr (.inr h)
      · exact .inr (.inl h)
  k := fun a o h hl => f.k a o (e.k a o h hl) fun h' => by
    rcases e.lz a h' with z | z
    · exact hl z
    · rw [h] at z; cases z
  lz := fun a h => by
    rcases f.lz a h with h | h
    · exact e.lz a h
    · rcases e.none_back h with h | h
      · exact .inr h
      · exact .inl h
  pr := fun i hi => (f.pr i (Nat.lt_of_lt_of_le hi hpq)).trans (e.pr i hi)
  ln := Nat.le_trans hpq f.ln
  lk := fun i ds h => by
    obtain ⟨h1, h2⟩ := e.lk i ds h
    obtain ⟨h3, h4⟩ := f.lk i ds h1
    exact ⟨h3, h4.trans h2⟩
  nq := f.nq.trans e.nq
  sq := f.sq.trans e.sq
theorem Ext.mono (e : Ext q w s H w' s' H') (h : p ≤ q) : Ext p w s H w' s' H' := ⟨e.z, e.zn, e.k, e.lz, fun i hi => e.pr i (Nat.lt_of_lt_of_le hi h), Nat.le_trans h e.ln, e.lk, e.nq, e.sq⟩
theorem StR.notLive (h : StR K w s σ H) {a : Addr} (hz : w.Z a) : ¬ Live w s a := fun ⟨i, ds, e, ea⟩ => by
  have q := h.cl i _ e
  rw [ea] at q
  exact q.1 hz
theorem StR.live_lst (h : StR K w s σ H) {a : Addr} (l : Live w s a) : ∃ xs, H a = some (.lst xs) := by
  obtain ⟨i, ds, e, rfl⟩ := l
  obtain ⟨_, xs, q, _⟩ := h.cl i _ e
  exact ⟨xs, q⟩
/-- data stays true -/
theorem StR.stay (h : StR K w s σ H) (e : Ext p w s H w' s' H') : Stay w.Z H w'.Z H' where
  z := e.z
  l := fun a xs hz hl => e.k a _ hl (h.notLive hz)
  t := fun a xs ht => e.k a _ ht fun l => by
    obtain ⟨ys, q⟩ := h.live_lst l
    rw [ht] at q; cases q
  f := fun a o u hf => e.k a _ hf fun l => by
    obtain ⟨ys, q⟩ := h.live_lst l
    rw [hf] at q; cases q
theorem RR.stay (h : StR K w s σ H) (e : Ext p w s H w' s' H') (hp : s.ce.length ≤ p) {v : V} : ∀ {r : R}, RR K w s.ce.length H v r → RR K w' s'.ce.length H' v r
  | .sh _, q => Den.stay (h.stay e) q
  | .own c, ⟨q, hc⟩ => ⟨by rw [e.pr c (Nat.lt_of_lt_of_le hc hp)]; exact q, Nat.lt_of_lt_of_le hc (Nat.le_trans hp e.ln)⟩
end
/-- several values -/
inductive RRs (K : PySem.W.Frag) (w : Wd) (n : Nat) (H : Hp) : List V → List R → Prop
  | nil : RRs K w n H [] []
  | cons {v : V} {vs : List V} {r : R} {rs : List R} : RR K w n H v r → RRs K w n H vs rs → RRs K w n H (v :: vs) (r :: rs)
section
variable {K : PySem.W.Frag} {w w' w₂ : Wd} {s s' s₂ : S} {H H' H₂ : Hp} {σ : St} {p q : Nat}
theorem RRs.stay (h : StR K w s σ H) (e : Ext p w s H w' s' H') (hp : s.ce.length ≤ p) : ∀ {vs : List V} {rs : List R}, RRs K w s.ce.length H vs rs → RRs K w' s'.ce.length H' vs rs
  | _, _, .nil => .nil
  | _, _, .cons a b => .cons (RR.stay h e hp a) (RRs.stay h e hp b)
theorem RRs.length {n : Nat} : ∀ {vs : List V} {rs : List R}, RRs K w n H vs rs → vs.length = rs.length
  | _, _, .nil => rfl
  | _, _, .cons _ b => by simp [RRs.length b]
theorem RRs.get {n : Nat} : ∀ {vs : List V} {rs : List R} {i : Nat} {r : R}, RRs K w n H vs rs → rs[i]? = some r → ∃ v, vs[i]? = some v ∧ RR K w n H v r
  | _, _, _, _, .nil, e => by simp at e
  | _, _, 0, _, .cons h _, e => by simp at e; subst e; exact ⟨_, rfl, h⟩
  | _, _, i + 1, r, .cons _ t, e => by
    obtain ⟨v, h1, h2⟩ := RRs.get (i := i) (r := r) t (by simpa using e)
    exact ⟨v, by simpa using h1, h2⟩
end
end E
/-! E1: what is wanted behind a piece; the steps of states. -/
namespace E
open PySem PySem.Spec PyProof.Rows L2

/-- an exception's class and dict -/
def ExR (K : PySem.W.Frag) (mg : Str → Option Value) (w : Wd) (H : Hp) (x : Ex) (cls : Value) (dd : Option Addr) : Prop :=
  ∃ C : Addr, cls = .ref C ∧ mg (Str.ofString x.cls) = some (.ref C) ∧
    match x.fs with
    | [] => True
    | (f, d) :: _ => ∃ da v, dd = some da ∧ H da = some (.xd [(f, v)]) ∧ Den K w.Z H v d
/-- behind a piece that leaves the slots: p places keep -/
def Post {α : Type} (K : PySem.W.Frag) (mg : Str → Option Value) (W : WX) (σ : St) (p : Nat) (w : Wd) (s : S) (H : Hp) (r : Res α) (Q : Wd → α → S → Hp → Prop) : Prop :=
  match r with
  | .ok a s' => ∀ w' H', StR K w' s' σ H' → Ext p w s H w' s' H' → Q w' a s' H'
  | .exc x s' => ∀ w' H' cls dd, StR K w' s' σ H' → Ext p w s H w' s' H' → ExR K mg w' H' x cls dd → W cls dd σ H'
  | .bad => False
section
variable {K : PySem.W.Frag} {mg : Str → Option Value} {W : WX} {w w' w₂ : Wd} {s s' s₂ : S} {H H' H₂ : Hp} {σ : St} {p q : Nat} {α β : Type}
theorem Post.mono {r : Res α} {Q Q' : Wd → α → S → Hp → Prop} (h : Post K mg W σ p w s H r Q) (f : ∀ w' a s' H', StR K w' s' σ H' → Ext p w s H w' s' H' → Q w' a s' H' → Q' w' a s' H') : Post K mg W σ p w s H r Q' := by
  cases r with
  | ok a s' => exact fun w' H' h1 h2 => f _ _ _ _ h1 h2 (h w' H' h1 h2)
  | exc x s' => exact h
  | bad => exact h
/-- the first part's wish -/
theorem Post.split {r : Res α} {g : α → S → Res β} {Q : Wd → β → S → Hp → Prop} (h : Post K mg W σ p w s H (r.bind g) Q) :
    Post K mg W σ p w s H r (fun w1 a s1 H1 => StR K w1 s1 σ H1 ∧ Ext p w s H w1 s1 H1 ∧ ∀ q, p ≤ q → Post K mg W σ q w1 s1 H1 (g a s1) Q) := by
  cases r with
  | ok a s1 =>
    intro w1 H1 h1 e1
    refine ⟨h1, e1, fun q hq => ?_⟩
    have h : Post K mg W σ p w s H (g a s1) Q := h
    revert h
    cases g a s1 with
    | ok b s2 => exact fun h w2 H2 h2 e2 => h w2 H2 h2 (e1.trans e2 hq)
    | exc x s2 => exact fun h w2 H2 cls dd h2 e2 => h w2 H2 cls dd h2 (e1.trans e2 hq)
    | bad => exact fun h => h
  | exc x s1 => exact h
  | bad => exact h
end
/-- an expression's value -/
def QV (K : PySem.W.Frag) (Q : VK) : Wd → R → S → Hp → Prop := fun w r s H => ∀ v, RR K w s.ce.length H v r → Q v H
def tE (K : PySem.W.Frag) (mg : Str → Option Value) (W : WX) (f : ES) : TE := fun σ H Q => ∃ w s, StR K w s σ H ∧ Post K mg W σ s.ce.length w s H (f s) (QV K Q)
def tT (K : PySem.W.Frag) (mg : Str → Option Value) (W : WX) (f : TS') : TT := fun σ H Q => ∃ w s, StR K w s σ H ∧ Post K mg W σ s.ce.length w s H (f s) (fun _ b _ H' => Q b H')
def tA (K : PySem.W.Frag) (mg : Str → Option Value) (W : WX) (f : AS) : TA := fun σ H Q => ∃ w s, StR K w s σ H ∧ Post K mg W σ s.ce.length w s H (f s) (fun w' rs s' H' => ∀ vs, RRs K w' s'.ce.length H' vs rs → Q vs H')
def SE (X : Cx) (W : WX) (e : Expr) (f : ES) : Prop := PE X e (tE X.K X.mg W f)
def ST (X : Cx) (W : WX) (e : Expr) (f : TS') : Prop := PT X e (tT X.K X.mg W f)
def SW (X : Cx) (W : WX) (e : Expr) (f : TS') : Prop := PW X e (tT X.K X.mg W f)
def SA (X : Cx) (W : WX) (es : List Expr) (f : AS) : Prop := PA X es (tA X.K X.mg W f)

/-! ### reading a value -/
def S.cellAt (s : S) (c : Nat) : Cell := (s.ce[c]?).getD .dead
/-- the data that a value holds now -/
def S.look (s : S) : R → Option D
  | .sh d => some d
  | .own c => match s.cellAt c with
    | .lv ds => some (.list ds)
    | .fz ds => some (.list ds)
    | .lk ds => some (.list ds)
    | .dead => none
/-- data, its uppermost list perhaps open -/
def DL (K : PySem.W.Frag) (Z : Addr → Prop) (H : Hp) (v : V) (d : D) : Prop :=
  Den K Z H v d ∨ ∃ a xs ds, v = .ref a ∧ d = .list ds ∧ H a = some (.lst xs) ∧ Dens K Z H xs ds
section
variable {K : PySem.W.Frag} {mg : Str → Option Value} {W : WX} {w w' w₂ : Wd} {s s' s₂ : S} {H H' H₂ : Hp} {σ : St} {p q : Nat} {Z : Addr → Prop}
theorem S.cellAt_some {c : Nat} {x : Cell} (h : s.cellAt c = x) (hx : x ≠ .dead) : s.ce[c]? = some x := by
  unfold S.cellAt at h
  cases e : s.ce[c]? with
  | none => rw [e] at h; exact absurd h.symm hx
  | some y => rw [e] at h; exact congrArg some h
theorem look_own {c : Nat} {d : D} (h : s.look (.own c) = some d) : ∃ ds, d = .list ds ∧ (s.ce[c]? = some (.lv ds) ∨ s.ce[c]? = some (.fz ds) ∨ s.ce[c]? = some (.lk ds)) := by
  unfold S.look at h
  cases e : s.cellAt c with
  | dead => simp only [e] at h; cases h
  | lv ds => simp only [e] at h; exact ⟨ds, (Option.some.inj h).symm, .inl (S.cellAt_some e (by simp))⟩
  | fz ds => simp only [e] at h; exact ⟨ds, (Option.some.inj h).symm, .inr (.inl (S.cellAt_some e (by simp)))⟩
  | lk ds => simp only [e] at h; exact ⟨ds, (Option.some.inj h).symm, .inr (.inr (S.cellAt_some e (by simp)))⟩
theorem look_ok (h : StR K w s σ H) {r : R} {d : D} {v : V} (hl : s.look r = some d) (hr : RR K w s.ce.length H v r) : DL K w.Z H v d := by
  cases r with
  | sh e =>
    have : e = d := Option.some.inj hl
    subst this
    exact .inl hr
  | own c =>
    obtain ⟨ds, rfl, e⟩ := look_own hl
    obtain ⟨rfl, _⟩ := hr
    refine .inr ?_
    rcases e with e | e | e
    · obtain ⟨_, xs, q, z⟩ := h.cl c _ e
      exact ⟨_, xs, ds, rfl, rfl, q, z⟩
    · obtain ⟨_, xs, q, z⟩ := h.cl c _ e
      exact ⟨_, xs, ds, rfl, rfl, q, z⟩
    · obtain ⟨_, xs, q, z⟩ := h.cl c _ e
      exact ⟨_, xs, ds, rfl, rfl, q, z⟩
theorem DL.dp {v : V} {d : D} (h : DL K Z H v d) : Dp K H v d := by
  rcases h with h | ⟨a, xs, ds, rfl, rfl, q, z⟩
  · exact h.dp
  · exact .lst (SqL.of q) z.dp
theorem DL.list {v : V} {ds : List D} (h : DL K Z H v (.list ds)) : ∃ a xs, v = .ref a ∧ LstA K H a xs ∧ Dens K Z H xs ds := by
  rcases h with h | ⟨a, xs, ds', rfl, e, q, z⟩
  · cases h with
    | lst h1 h2 => exact ⟨_, _, rfl, h1.any, h2⟩
  · cases e
    exact ⟨_, _, rfl, .inl q, z⟩
theorem DL.tup {v : V} {ds : List D} (h : DL K Z H v (.tuple ds)) : ∃ a xs, v = .ref a ∧ SqT K H a xs ∧ Dens K Z H xs ds := by
  rcases h with h | ⟨a, xs, ds', rfl, e, q, z⟩
  · cases h with
    | tup h1 h2 => exact ⟨_, _, rfl, h1, h2⟩
  · cases e
theorem DL.int {v : V} {i : Int} (h : DL K Z H v (.int i)) : v = .int i := by
  rcases h with h | ⟨a, xs, ds', rfl, e, q, z⟩
  · cases h; rfl
  · cases e
theorem DL.bool {v : V} {i : Bool} (h : DL K Z H v (.bool i)) : v = .bl i := by
  rcases h with h | ⟨a, xs, ds', rfl, e, q, z⟩
  · cases h; rfl
  · cases e
theorem DL.str {v : V} {i : Str} (h : DL K Z H v (.str i)) : v = .str i := by
  rcases h with h | ⟨a, xs, ds', rfl, e, q, z⟩
  · cases h; rfl
  · cases e
theorem DL.none {v : V} (h : DL K Z H v .none) : v = .non := by
  rcases h with h | ⟨a, xs, ds', rfl, e, q, z⟩
  · cases h; rfl
  · cases e
theorem DL.nodict {v : V} {kv : List (D × D)} (h : DL K Z H v (.dict kv)) : False := by
  rcases h with h | ⟨a, xs, ds', rfl, e, q, z⟩
  · cases h
  · cases e
end

/-! ### the steps -/
def S.push (s : S) (c : Cell) : S := { s with ce := s.ce ++ [c] }
def S.put (s : S) (i : Nat) (c : Cell) : S := { s with ce := s.ce.set i c }
def Wd.at (w : Wd) (n : Nat) (a : Addr) : Wd := { w with ρ := fun i => if i = n then a else w.ρ i }
section
variable {K : PySem.W.Frag} {mg : Str → Option Value} {W : WX} {w w' w₂ : Wd} {s s' s₂ : S} {H H' H₂ : Hp} {σ : St} {p q : Nat} {Z Z' : Addr → Prop}
theorem stay_upd {a : Addr} {o : HO} (hn : H a = none) : Stay Z H Z (upd H a o) :=
  ⟨fun _ h => h, fun b xs _ h => by rw [upd_ne (ne_of_none h hn)]; exact h, fun b xs h => by rw [upd_ne (ne_of_none h hn)]; exact h, fun b o u h => by rw [upd_ne (ne_of_none h hn)]; exact h⟩
theorem CellR.stay (y : Stay Z H Z' H') {a : Addr} {c : Cell} (h : CellR K Z H a c) (hz : c.open?.isSome = true → Z' a → Z a) (hk : c ≠ .dead → ∀ xs, H a = some (.lst xs) → H' a = some (.lst xs)) : CellR K Z' H' a c := by
  cases c with
  | dead => trivial
  | lv ds => obtain ⟨h1, xs, h2, h3⟩ := h; exact ⟨fun z => h1 (hz rfl z), xs, hk (by simp) _ h2, Dens.stay y h3⟩
  | lk ds => obtain ⟨h1, xs, h2, h3⟩ := h; exact ⟨fun z => h1 (hz rfl z), xs, hk (by simp) _ h2, Dens.stay y h3⟩
  | fz ds => obtain ⟨h1, xs, h2, h3⟩ := h; exact ⟨y.z _ h1, xs, hk (by simp) _ h2, Dens.stay y h3⟩
/-- something new is laid that is no cell -/
theorem StR.lay (h : StR K w s σ H) {a : Addr} {o : HO} (hn : H a = none) : StR K w s σ (upd H a o) where
  cl := fun i c e => (h.cl i c e).stay (stay_upd hn) (fun _ z => z) fun _ xs q => by rw [upd_ne (ne_of_none q hn)]; exact q
  inj := h.inj
  sl := fun i r e => by
    obtain ⟨v, e1, e2⟩ := h.sl i r e
    refine ⟨v, e1, ?_⟩
    cases r with
    | sh d => exact Den.stay (stay_upd hn) e2
    | own c => exact e2
  sn := h.sn
  zt := fun b hz => by
    obtain ⟨xs, q⟩ := h.zt b hz
    exact ⟨xs, by rw [upd_ne (ne_of_none q hn)]; exact q⟩
  sb := h.sb
  bs := h.bs
  lb := h.lb
theorem Ext.lay {a : Addr} {o : HO} (hn : H a = none) (hp : p ≤ s.ce.length) : Ext p w s H w s (upd H a o) :=
  ⟨fun _ h => h, fun _ h => .inl h, fun b u h _ => by rw [upd_ne (ne_of_none h hn)]; exact h, fun _ h => .inl h, fun _ _ => rfl, hp, fun _ _ h => ⟨h, rfl⟩, rfl, rfl⟩
theorem push_get {c x : Cell} {i : Nat} (e : (s.push c).ce[i]? = some x) : (i < s.ce.length ∧ s.ce[i]? = some x) ∨ (i = s.ce.length ∧ x = c) := by
  have e' : (s.ce ++ [c])[i]? = some x := e
  by_cases hi : i < s.ce.length
  · rw [List.getElem?_append_left hi] at e'
    exact .inl ⟨hi, e'⟩
  · rw [List.getElem?_append_right (Nat.le_of_not_lt hi)] at e'
    have z0 : i - s.ce.length = 0 := by
      cases z : i - s.ce.length with
      | zero => rfl
      | succ n => rw [z] at e'; simp at e'
    rw [z0] at e'
    simp at e'
    exact .inr ⟨by omega, e'.symm⟩
theorem push_len {c : Cell} : (s.push c).ce.length = s.ce.length + 1 := by
  show (s.ce ++ [c]).length = _
  simp
theorem StR.open_lst (h : StR K w s σ H) {i : Nat} {x : Cell} (e : s.ce[i]? = some x) (ho : x.open?.isSome = true) : ∃ xs, H (w.ρ i) = some (.lst xs) := by
  have q := h.cl i x e
  cases x with
  | dead => cases ho
  | fz ds => cases ho
  | lv ds => obtain ⟨_, xs, q, _⟩ := q; exact ⟨xs, q⟩
  | lk ds => obtain ⟨_, xs, q, _⟩ := q; exact ⟨xs, q⟩
/-- a new list in a new cell -/
theorem StR.new (h : StR K w s σ H) {a : Addr} {xs : List V} {ds : List D} (hn : H a = none) (hd : Dens K w.Z H xs ds) :
    StR K (w.at s.ce.length a) (s.push (.lv ds)) σ (upd H a (.lst xs)) ∧ Ext s.ce.length w s H (w.at s.ce.length a) (s.push (.lv ds)) (upd H a (.lst xs)) ∧
      RR K (w.at s.ce.length a) (s.push (.lv ds)).ce.length (upd H a (.lst xs)) (.ref a) (.own s.ce.length) := by
  have hza : ¬ w.Z a := fun z => by
    obtain ⟨ys, q⟩ := h.zt a z
    rw [hn] at q; cases q
  have same : ∀ i, i < s.ce.length → (w.at s.ce.length a).ρ i = w.ρ i := fun i hi => if_neg (Nat.ne_of_lt hi)
  have last : (w.at s.ce.length a).ρ s.ce.length = a := if_pos rfl
  have nl : ∀ (i : Nat) (x : Cell), s.ce[i]? = some x → x.open?.isSome = true → w.ρ i ≠ a := fun i x e ho z => by
    obtain ⟨ys, q⟩ := h.open_lst e ho
    rw [z, hn] at q; cases q
  refine ⟨⟨fun i c e => ?_, fun i j x y e1 e2 o1 o2 e3 => ?_, fun i r e => ?_, h.sn, fun b hz => ?_, h.sb, by rw [push_len]; have := h.bs; show s.np + s.sl.length ≤ _; omega, fun i ds' e => by
    rcases push_get e with ⟨_, e'⟩ | ⟨_, z⟩
    · exact h.lb i ds' e'
    · cases z⟩, ⟨fun _ z => z, fun _ z => .inl z, fun b o q _ => by rw [upd_ne (ne_of_none q hn)]; exact q, fun b ⟨i, ds', e, eb⟩ => ?_, same, by rw [push_len]; omega, fun i ds' e => ?_, rfl, rfl⟩, ⟨by rw [last], by rw [push_len]; omega⟩⟩
  · rcases push_get e with ⟨hi, e'⟩ | ⟨rfl, rfl⟩
    · rw [same i hi]
      exact ((h.lay hn).cl i c e' : CellR K w.Z (upd H a (.lst xs)) (w.ρ i) c)
    · rw [last]
      exact ⟨hza, xs, upd_same, Dens.stay (stay_upd hn) hd⟩
  · rcases push_get e1 with ⟨hi, e1'⟩ | ⟨rfl, _⟩
    · rcases push_get e2 with ⟨hj, e2'⟩ | ⟨rfl, _⟩
      · rw [same i hi, same j hj] at e3
        exact h.inj i j _ _ e1' e2' o1 o2 e3
      · rw [same i hi, last] at e3
        exact absurd e3 (nl i _ e1' o1)
    · rcases push_get e2 with ⟨hj, e2'⟩ | ⟨rfl, _⟩
      · rw [same j hj, last] at e3
        exact absurd e3.symm (nl j _ e2' o2)
      · rfl
  · obtain ⟨v, e1, e2⟩ := h.sl i r e
    refine ⟨v, e1, ?_⟩
    cases r with
    | sh d => exact Den.stay (stay_upd hn) e2
    | own c =>
      obtain ⟨q, hc⟩ := e2
      refine ⟨by rw [same c hc]; exact q, ?_⟩
      rw [push_len]; omega
  · obtain ⟨ys, q⟩ := h.zt b hz
    exact ⟨ys, by rw [upd_ne (ne_of_none q hn)]; exact q⟩
  · rcases push_get e with ⟨hi, e'⟩ | ⟨rfl, _⟩
    · rw [same i hi] at eb
      exact .inl ⟨i, ds', e', eb⟩
    · rw [last] at eb
      exact .inr (eb ▸ hn)
  · have hi : i < s.ce.length := (List.getElem?_eq_some_iff.mp e).1
    exact ⟨(List.getElem?_append_left hi).trans e, same i hi⟩
theorem put_get {i j : Nat} {c x : Cell} (e : (s.put i c).ce[j]? = some x) : (j = i ∧ x = c ∧ i < s.ce.length) ∨ (j ≠ i ∧ s.ce[j]? = some x) := by
  have e' : (s.ce.set i c)[j]? = some x := e
  by_cases hj : i = j
  · subst hj
    by_cases hi : i < s.ce.length
    · rw [List.getElem?_set_self hi] at e'
      exact .inl ⟨rfl, (Option.some.inj e').symm, hi⟩
    · rw [List.getElem?_eq_none (by simpa using hi)] at e'; cases e'
  · rw [List.getElem?_set_ne hj] at e'
    exact .inr ⟨Ne.symm hj, e'⟩
theorem put_len {i : Nat} {c : Cell} : (s.put i c).ce.length = s.ce.length := by
  show (s.ce.set i c).length = _
  simp
theorem put_other {i j : Nat} {c x : Cell} (hne : j ≠ i) (e : s.ce[j]? = some x) : (s.put i c).ce[j]? = some x := by
  show (s.ce.set i c)[j]? = some x
  rw [List.getElem?_set_ne (Ne.symm hne)]
  exact e
/-- the list in a cell is changed -/
theorem StR.write (h : StR K w s σ H) {c : Nat} {ds ds' : List D} {xs : List V} (hc : s.ce[c]? = some (.lv ds)) (hd : Dens K w.Z H xs ds') :
    StR K w (s.put c (.lv ds')) σ (upd H (w.ρ c) (.lst xs)) ∧ Ext s.ce.length w s H w (s.put c (.lv ds')) (upd H (w.ρ c) (.lst xs)) := by
  obtain ⟨hz, ys, hH, _⟩ := h.cl c _ hc
  have hz : ¬ w.Z (w.ρ c) := hz
  have hlc : Live w s (w.ρ c) := ⟨c, ds, hc, rfl⟩
  have y : Stay w.Z H w.Z (upd H (w.ρ c) (.lst xs)) := by
    refine ⟨fun _ q => q, fun b zs hb q => ?_, fun b zs q => ?_, fun b o u q => ?_⟩
    · rw [upd_ne (fun e : b = w.ρ c => hz (by rw [← e]; exact hb))]; exact q
    · rw [upd_ne (ne_of q hH (by simp))]; exact q
    · rw [upd_ne (ne_of q hH (by simp))]; exact q
  refine ⟨⟨fun i x e => ?_, fun i j x y e1 e2 o1 o2 e3 => ?_, fun i r e => ?_, h.sn, fun b hb => ?_, h.sb, by rw [put_len]; exact h.bs, fun i ds'' e => by
    rcases put_get e with ⟨_, z, _⟩ | ⟨_, e'⟩
    · cases z
    · exact h.lb i ds'' e'⟩, ⟨fun _ q => q, fun _ q => .inl q, fun b o q hl => ?_, fun b ⟨i, ds'', e, eb⟩ => ?_, fun _ _ => rfl, by rw [put_len]; exact Nat.le_refl _, fun i ds'' e => ⟨put_other (fun z => by subst z; rw [hc] at e; cases e) e, rfl⟩, rfl, rfl⟩⟩
  · rcases put_get e with ⟨rfl, rfl, _⟩ | ⟨hne, e'⟩
    · exact ⟨hz, xs, upd_same, Dens.stay y hd⟩
    · refine (h.cl i x e').stay y (fun _ q => q) fun hx zs q => ?_
      cases x with
      | dead => exact absurd rfl hx
      | lv zs' => rw [upd_ne (fun z => hne (h.inj i c _ _ e' hc rfl rfl z))]; exact q
      | lk zs' => rw [upd_ne (fun z => hne (h.inj i c _ _ e' hc rfl rfl z))]; exact q
      | fz zs' => rw [upd_ne (fun z : w.ρ i = w.ρ c => hz (by rw [← z]; exact (h.cl i _ e').1))]; exact q
  · rcases put_get e1 with ⟨rfl, _, _⟩ | ⟨h1, e1'⟩
    · rcases put_get e2 with ⟨rfl, _, _⟩ | ⟨h2, e2'⟩
      · rfl
      · exact h.inj i j _ _ hc e2' rfl o2 e3
    · rcases put_get e2 with ⟨rfl, _, _⟩ | ⟨h2, e2'⟩
      · exact h.inj i j _ _ e1' hc o1 rfl e3
      · exact h.inj i j _ _ e1' e2' o1 o2 e3
  · obtain ⟨v, e1, e2⟩ := h.sl i r e
    refine ⟨v, e1, ?_⟩
    cases r with
    | sh d => exact Den.stay y e2
    | own c' =>
      obtain ⟨q, hc'⟩ := e2
      exact ⟨q, by rw [put_len]; exact hc'⟩
  · obtain ⟨zs, q⟩ := h.zt b hb
    exact ⟨zs, y.l b zs hb q⟩
  · rw [upd_ne (fun e : b = w.ρ c => hl (by rw [e]; exact hlc))]; exact q
  · rcases put_get e with ⟨rfl, _, _⟩ | ⟨h1, e'⟩
    · exact .inl ⟨i, ds, hc, eb⟩
    · exact .inl ⟨i, ds'', e', eb⟩
/-- a cell's list is fixed -/
def Wd.fix (w : Wd) (a : Addr) : Wd := { w with Z := fun b => w.Z b ∨ b = a }
theorem StR.fix (h : StR K w s σ H) {c : Nat} {ds : List D} (hc : s.ce[c]? = some (.lv ds)) :
    StR K (w.fix (w.ρ c)) (s.put c (.fz ds)) σ H ∧ Ext s.ce.length w s H (w.fix (w.ρ c)) (s.put c (.fz ds)) H ∧ Den K (w.fix (w.ρ c)).Z H (.ref (w.ρ c)) (.list ds) := by
  obtain ⟨hz, ys, hH, hd⟩ := h.cl c _ hc
  have y : Stay w.Z H (w.fix (w.ρ c)).Z H := ⟨fun _ q => .inl q, fun _ _ _ q => q, fun _ _ q => q, fun _ _ _ q => q⟩
  have lc : (w.fix (w.ρ c)).Z (w.ρ c) := .inr rfl
  refine ⟨⟨fun i x e => ?_, fun i j x y e1 e2 o1 o2 e3 => ?_, fun i r e => ?_, h.sn, fun b hb => ?_, h.sb, by rw [put_len]; exact h.bs, fun i ds'' e => by
    rcases put_get e with ⟨_, z, _⟩ | ⟨_, e'⟩
    · cases z
    · exact h.lb i ds'' e'⟩, ⟨fun _ q => .inl q, fun b q => ?_, fun b o q hl => q, fun b ⟨i, ds'', e, eb⟩ => ?_, fun _ _ => rfl, by rw [put_len]; exact Nat.le_refl _, fun i ds'' e => ⟨put_other (fun z => by subst z; rw [hc] at e; cases e) e, rfl⟩, rfl, rfl⟩, .lst (.inl ⟨lc, hH⟩) (Dens.stay y hd)⟩
  · rcases put_get e with ⟨rfl, rfl, _⟩ | ⟨hne, e'⟩
    · exact ⟨lc, ys, hH, Dens.stay y hd⟩
    · refine (h.cl i x e').stay y (fun ho q => ?_) fun _ zs q => q
      rcases q with q | q
      · exact q
      · exact absurd (h.inj i c _ _ e' hc ho rfl q) hne
  · rcases put_get e1 with ⟨_, z, _⟩ | ⟨h1, e1'⟩
    · subst z; cases o1
    · rcases put_get e2 with ⟨_, z, _⟩ | ⟨h2, e2'⟩
      · subst z; cases o2
      · exact h.inj i j _ _ e1' e2' o1 o2 e3
  · obtain ⟨v, e1, e2⟩ := h.sl i r e
    refine ⟨v, e1, ?_⟩
    cases r with
    | sh d => exact Den.stay y e2
    | own c' =>
      obtain ⟨q, hc'⟩ := e2
      exact ⟨q, by rw [put_len]; exact hc'⟩
  · rcases hb with hb | rfl
    · exact h.zt b hb
    · exact ⟨ys, hH⟩
  · rcases q with q | rfl
    · exact .inl q
    · exact .inr (.inr ⟨c, ds, hc, rfl⟩)
  · rcases put_get e with ⟨_, z, _⟩ | ⟨h1, e'⟩
    · cases z
    · exact .inl ⟨i, ds'', e', eb⟩
end
end E
/-! E2: expressions: names, constants, operators. -/
namespace E
open PySem PySem.Spec PyProof.Rows L2

section
variable {X : Cx} {W : WX} {e a b c : Expr} {f g : ES} {pos : Pos}
theorem pe_imp {t t' : TE} (h : PE X e t) (hi : ∀ σ H Q, t' σ H Q → t σ H Q) : PE X e t' := ⟨fun pins s σ H Q I q => h.run pins s σ H Q I (hi σ H Q q)⟩
theorem pt_imp {t t' : TT} (h : PT X e t) (hi : ∀ σ H Q, t' σ H Q → t σ H Q) : PT X e t' := ⟨fun pins s σ H Q I q => h.run pins s σ H Q I (hi σ H Q q)⟩
theorem ps_imp {st : Stmt} {t t' : TS} (h : PS X st t) (hi : ∀ σ H D, t' D σ H → t D σ H) : PS X st t' := ⟨fun pins s σ H D I q => h.run pins s σ H D I (hi σ H D q)⟩
end
section
variable {K : PySem.W.Frag} {mg : Str → Option Value} {W : WX} {w w' w₂ : Wd} {s s' s₂ : S} {H H' H₂ : Hp} {σ : St} {p q : Nat} {Z Z' : Addr → Prop} {Q : VK}
/-- data, nothing changed -/
theorem Post.sh {d : D} {v : V} (h : Post K mg W σ p w s H (.ok (.sh d) s) (QV K Q)) (hS : StR K w s σ H) (hp : p ≤ s.ce.length) (hd : Den K w.Z H v d) : Q v H := h w H hS (Ext.refl hp) v hd
theorem Post.val {r : R} {v : V} (h : Post K mg W σ p w s H (.ok r s) (QV K Q)) (hS : StR K w s σ H) (hp : p ≤ s.ce.length) (hd : RR K w s.ce.length H v r) : Q v H := h w H hS (Ext.refl hp) v hd
/-- a new list -/
theorem Post.new {ds : List D} {xs : List V} {a : Addr} (h : Post K mg W σ p w s H (.ok (.own s.ce.length) (s.push (.lv ds))) (QV K Q)) (hS : StR K w s σ H) (hp : p ≤ s.ce.length) (hd : Dens K w.Z H xs ds) (hn : H a = none) : Q (.ref a) (upd H a (.lst xs)) := by
  obtain ⟨h1, h2, h3⟩ := hS.new hn hd
  exact h _ _ h1 (h2.mono hp) _ h3
/-- a new tuple -/
theorem Post.tup {ds : List D} {xs : List V} {a : Addr} (h : Post K mg W σ p w s H (.ok (.sh (.tuple ds)) s) (QV K Q)) (hS : StR K w s σ H) (hp : p ≤ s.ce.length) (hd : Dens K w.Z H xs ds) (hn : H a = none) : Q (.ref a) (upd H a (.tup xs)) :=
  h _ _ (hS.lay hn) (Ext.lay hn hp) _ (.tup (.inl (.inl upd_same)) (Dens.stay (stay_upd hn) hd))
end

/-! ### names and constants -/
def varS (i : Nat) : ES := fun s => match s.sl[i]? with
  | some (some r) => .ok r s
  | _ => .bad
def litS (d : D) : ES := fun s => .ok (.sh d) s
section
variable {X : Cx} {W : WX} {e a b c : Expr} {f g : ES} {pos : Pos}
theorem se_var {i : Nat} {x : Str} (hN : X.N[i]? = some x) (hv : Vis X.env.scope x) (hd : (x == ("__debug__" : Str)) = false := by decide) (hcd : (x == ("__classdict__" : Str)) = false := by decide) : SE X W (.Name x pos) (varS i) := by
  refine pe_imp (pe_var hN hv hd hcd) fun σ H Q ⟨w, s, hS, h⟩ => ?_
  unfold varS at h
  split at h
  · rename_i r e
    obtain ⟨v, h1, h2⟩ := hS.sl i r e
    exact ⟨v, h1, h.val hS (Nat.le_refl _) h2⟩
  · exact h.elim
theorem lit_of {v : V} {d : D} (h : PE X e (tC v)) (hd : ∀ Z H, Den X.K Z H v d) : SE X W e (litS d) :=
  pe_imp h fun σ H Q ⟨w, s, hS, q⟩ => q.sh hS (Nat.le_refl _) (hd _ _)
theorem se_int {i : Int} {j : Nat} : SE X W (.Constant (.int i) j pos) (litS (.int i)) := lit_of pe_int fun _ _ => .int i
theorem se_bool {i : Bool} {j : Nat} : SE X W (.Constant (.bool i) j pos) (litS (.bool i)) := lit_of pe_bl fun _ _ => .bl i
theorem se_none {j : Nat} : SE X W (.Constant .none j pos) (litS .none) := lit_of pe_non fun _ _ => .non
theorem se_str {x : Str} {j : Nat} : SE X W (.Constant (.str x) j pos) (litS (.str x)) := lit_of pe_str fun _ _ => .str x
theorem se_glob {x : Str} {v : V} {u : Value} {d : D} (hg : Gl X x) (hm : X.mg x = some u) (r : RelV v u) (hd : ∀ Z H, Den X.K Z H v d) (hdb : (x == ("__debug__" : Str)) = false := by decide) : SE X W (.Name x pos) (litS d) :=
  lit_of (pe_glob hg hm r hdb) hd
end

/-! ### two places -/
def bin2 (g : R → R → S → Res R) (f1 f2 : ES) : ES := fun s => (f1 s).bind fun r1 s1 => (f2 s1).bind fun r2 s2 => g r1 r2 s2
/-- the state at which an operation on two values stands -/
def At2 (K : PySem.W.Frag) (mg : Str → Option Value) (W : WX) (g : R → R → S → Res R) : R2 := fun x y H Q =>
  ∃ σ w s r1 r2, StR K w s σ H ∧ RR K w s.ce.length H x r1 ∧ RR K w s.ce.length H y r2 ∧ Post K mg W σ s.ce.length w s H (g r1 r2 s) (QV K Q)
def OpS (X : Cx) (W : WX) (f : Value → Value → Sem Value) (g : R → R → S → Res R) : Prop := OpR X f (At2 X.K X.mg W g)
section
variable {X : Cx} {W : WX} {e a b c : Expr} {f f1 f2 : ES} {g : R → R → S → Res R} {pos : Pos}
theorem two_at {K : PySem.W.Frag} {mg : Str → Option Value} {σ : St} {H : Hp} {Q : VK} (h : tE K mg W (bin2 g f1 f2) σ H Q) : tE K mg W f1 σ H fun x H1 => tE K mg W f2 σ H1 fun y H2 => At2 K mg W g x y H2 Q := by
  obtain ⟨w, s, hS, h⟩ := h
  refine ⟨w, s, hS, Post.mono (Post.split h) fun w1 r1 s1 H1 _ _ ⟨hS1, e1, h1⟩ v hv => ?_⟩
  refine ⟨w1, s1, hS1, Post.mono (Post.split (h1 s1.ce.length e1.ln)) fun w2 r2 s2 H2 _ _ ⟨hS2, e2, h2⟩ v2 hv2 => ?_⟩
  exact ⟨σ, w2, s2, r1, r2, hS2, RR.stay hS1 e2 (Nat.le_refl _) hv, hv2, h2 _ e2.ln⟩
theorem se_bin {op : Operator} (ho : OpS X W (binaryOp op) g) (ha : SE X W a f1) (hb : SE X W b f2) : SE X W (.BinOp a op b pos) (bin2 g f1 f2) :=
  pe_imp (pe_op ho ha hb) fun σ H Q h => two_at h
theorem se_cmp {op : CmpOp} (ho : OpS X W (compareOp op) g) (ha : SE X W a f1) (hb : SE X W b f2) (hm : behindInMarks op b = false) : SE X W (.Compare a [op] [b] pos) (bin2 g f1 f2) :=
  pe_imp (pe_cmpR ho ha hb hm) fun σ H Q h => two_at h
end

/-! ### ints -/
/-- ints in under a condition -/
def intR (c : Int → Int → Prop) [∀ i j, Decidable (c i j)] (o : Int → Int → D) : R → R → S → Res R := fun r1 r2 s =>
  match s.look r1, s.look r2 with
  | some (.int i), some (.int j) => if c i j then .ok (.sh (o i j)) s else .bad
  | _, _ => .bad
section
variable {X : Cx} {W : WX}
theorem ops_int {f : Value → Value → Sem Value} {c : Int → Int → Prop} [∀ i j, Decidable (c i j)] {o : Int → Int → Int} (h : OpR X f (rI c fun i j => .int (o i j))) : OpS X W f (intR c fun i j => .int (o i j)) := by
  intro pins s0 σ0 H x y v u Q I rx ry ⟨σ, w, s, r1, r2, hS, h1, h2, hp⟩
  unfold intR at hp
  split at hp
  · rename_i i j e1 e2
    split at hp
    · rename_i hc
      have d1 := (look_ok hS e1 h1).int
      have d2 := (look_ok hS e2 h2).int
      exact h pins s0 σ0 H x y v u Q I rx ry ⟨i, j, d1, d2, hc, hp.sh hS (Nat.le_refl _) (.int _)⟩
    · exact hp.elim
  · exact hp.elim
theorem ops_cmpI {f : Value → Value → Sem Value} {o : Int → Int → Bool} (h : OpR X f (rI0 fun i j => .bl (o i j))) : OpS X W f (intR (fun _ _ => True) fun i j => .bool (o i j)) := by
  intro pins s0 σ0 H x y v u Q I rx ry ⟨σ, w, s, r1, r2, hS, h1, h2, hp⟩
  unfold intR at hp
  split at hp
  · rename_i i j e1 e2
    rw [if_pos trivial] at hp
    have d1 := (look_ok hS e1 h1).int
    have d2 := (look_ok hS e2 h2).int
    exact h pins s0 σ0 H x y v u Q I rx ry ⟨i, j, d1, d2, hp.sh hS (Nat.le_refl _) (.bl _)⟩
  · exact hp.elim
def cDiv (_ j : Int) : Prop := 0 < j ∧ j.natAbs.log2 < 9000
instance : ∀ i j, Decidable (cDiv i j) := fun i j => by unfold cDiv; exact inferInstance
def cMul (i j : Int) : Prop := i.natAbs.log2 + j.natAbs.log2 < 1000000
instance : ∀ i j, Decidable (cMul i j) := fun i j => by unfold cMul; exact inferInstance
def cPow (i j : Int) : Prop := 0 ≤ j ∧ (i.natAbs.log2 + 1) * j.toNat ≤ 1000000
instance : ∀ i j, Decidable (cPow i j) := fun i j => by unfold cPow; exact inferInstance
def cShl (i j : Int) : Prop := 0 ≤ j ∧ i.natAbs.log2 + 1 + j.toNat ≤ 1000000
instance : ∀ i j, Decidable (cShl i j) := fun i j => by unfold cShl; exact inferInstance
theorem bits_le (x : Int) : Builtin.Int.intBits x ≤ x.natAbs.log2 + 1 := by
  unfold Builtin.Int.intBits
  split <;> omega
theorem op_powW : OpR X (binaryOp .Pow) (rI cPow fun i j => .int (i ^ j.toNat)) := opI fun i j _ _ _ _ _ hc q => by
  refine pow_int hc.1 ?_ q
  have h1 := bits_le i
  have h2 : (i.natAbs.log2 + 1) * j.toNat ≤ 1000000 := hc.2
  have h3 : Builtin.Int.intBits i * j.toNat ≤ 1000000 := Nat.le_trans (Nat.mul_le_mul_right _ h1) h2
  have h4 : (j.toNat : Int) = j := Int.toNat_of_nonneg hc.1
  have h5 : ((Builtin.Int.intBits i * j.toNat : Nat) : Int) ≤ ((1000000 : Nat) : Int) := Int.ofNat_le.mpr h3
  rw [Int.natCast_mul, h4] at h5
  omega
theorem op_shlW' : OpR X (binaryOp .LShift) (rI cShl fun i j => .int (i * 2 ^ j.toNat)) := opI fun i j _ _ _ _ _ hc q => by
  refine lshift_int hc.1 ?_ q
  have h1 := bits_le i
  have h2 : i.natAbs.log2 + 1 + j.toNat ≤ 1000000 := hc.2
  have h4 : (j.toNat : Int) = j := Int.toNat_of_nonneg hc.1
  omega
theorem op_fdivX : OpR X (binaryOp .FloorDiv) (rI cDiv fun i j => .int (i / j)) := op_fdivW
theorem op_mulY : OpR X (binaryOp .Mult) (rI cMul fun i j => .int (i * j)) := op_mulW
theorem op_add' : OpR X (binaryOp .Add) (rI (fun _ _ => True) fun i j => .int (i + j)) := opI fun _ _ _ _ _ _ _ _ q => add_int q
theorem op_sub' : OpR X (binaryOp .Sub) (rI (fun _ _ => True) fun i j => .int (i - j)) := opI fun _ _ _ _ _ _ _ _ q => sub_int q
theorem op_and' : OpR X (binaryOp .BitAnd) (rI (fun _ _ => True) fun i j => .int (Builtin.bitAnd i j)) := opI fun _ _ _ _ _ _ _ _ q => and_int q
theorem op_xor' : OpR X (binaryOp .BitXor) (rI (fun _ _ => True) fun i j => .int (Builtin.bitXor i j)) := opI fun _ _ _ _ _ _ _ _ q => xor_int q
end
abbrev subR : R → R → S → Res R := intR (fun _ _ => True) fun i j => .int (i - j)
abbrev fdivR : R → R → S → Res R := intR cDiv fun i j => .int (i / j)
abbrev modR : R → R → S → Res R := intR (fun _ j => 0 < j) fun i j => .int (i % j)
abbrev powR : R → R → S → Res R := intR cPow fun i j => .int (i ^ j.toNat)
abbrev shlR : R → R → S → Res R := intR cShl fun i j => .int (i * 2 ^ j.toNat)
abbrev shrR : R → R → S → Res R := intR (fun _ j => 0 ≤ j) fun i j => .int (i / 2 ^ j.toNat)
abbrev andR : R → R → S → Res R := intR (fun _ _ => True) fun i j => .int (Builtin.bitAnd i j)
abbrev xorR : R → R → S → Res R := intR (fun _ _ => True) fun i j => .int (Builtin.bitXor i j)
abbrev ltR : R → R → S → Res R := intR (fun _ _ => True) fun i j => .bool (decide (i < j))
abbrev leR : R → R → S → Res R := intR (fun _ _ => True) fun i j => .bool (decide (i ≤ j))
abbrev gtR : R → R → S → Res R := intR (fun _ _ => True) fun i j => .bool (decide (j < i))
abbrev geR : R → R → S → Res R := intR (fun _ _ => True) fun i j => .bool (decide (j ≤ i))
section
variable {X : Cx} {W : WX}
theorem o_sub : OpS X W (binaryOp .Sub) subR := ops_int op_sub'
theorem o_fdiv : OpS X W (binaryOp .FloorDiv) fdivR := ops_int op_fdivX
theorem o_mod : OpS X W (binaryOp .Mod) modR := ops_int op_mod
theorem o_pow : OpS X W (binaryOp .Pow) powR := ops_int op_powW
theorem o_shl : OpS X W (binaryOp .LShift) shlR := ops_int op_shlW'
theorem o_shr : OpS X W (binaryOp .RShift) shrR := ops_int op_shr
theorem o_and : OpS X W (binaryOp .BitAnd) andR := ops_int op_and'
theorem o_xor : OpS X W (binaryOp .BitXor) xorR := ops_int op_xor'
theorem o_lt : OpS X W (compareOp .Lt) ltR := ops_cmpI op_lt
theorem o_le : OpS X W (compareOp .LtE) leR := ops_cmpI op_le
theorem o_gt : OpS X W (compareOp .Gt) gtR := ops_cmpI op_gt
theorem o_ge : OpS X W (compareOp .GtE) geR := ops_cmpI op_ge
end

/-! ### + and * -/
def addR : R → R → S → Res R := fun r1 r2 s =>
  match s.look r1, s.look r2 with
  | some (.int i), some (.int j) => .ok (.sh (.int (i + j))) s
  | some (.list xs), some (.list ys) => if xs.length + ys.length ≤ sizeLine then .ok (.own s.ce.length) (s.push (.lv (xs ++ ys))) else .bad
  | some (.str x), some (.str y) => if x.length + y.length ≤ sizeLine then .ok (.sh (.str (x ++ y))) s else .bad
  | some (.tuple xs), some (.tuple ys) => if xs ≠ [] ∧ xs.length + ys.length ≤ sizeLine then .ok (.sh (.tuple (xs ++ ys))) s else .bad
  | _, _ => .bad
/-- not to be computed: an Int against 2 ^ 62 would be counted down in the kernel -/
def in62 (k : Int) : Prop := k < 2 ^ 62 ∧ -(2 ^ 62) < k
noncomputable instance (k : Int) : Decidable (in62 k) := Classical.propDecidable _
theorem in62_nat {n : Nat} (h : n < 2 ^ 61) : in62 (n : Int) := ⟨by omega, by omega⟩
noncomputable def mulR : R → R → S → Res R := fun r1 r2 s =>
  match s.look r1, s.look r2 with
  | some (.int i), some (.int j) => if cMul i j then .ok (.sh (.int (i * j))) s else .bad
  | some (.list xs), some (.int k) => if in62 k ∧ xs.length * k.toNat ≤ sizeLine then .ok (.own s.ce.length) (s.push (.lv (List.replicate k.toNat xs).flatten)) else .bad
  | _, _ => .bad
section
variable {X : Cx} {W : WX} {K : PySem.W.Frag} {Z : Addr → Prop} {H : Hp}
theorem Dens.rep : ∀ (n : Nat) {xs : List V} {ds : List D}, Dens K Z H xs ds → Dens K Z H (List.replicate n xs).flatten (List.replicate n ds).flatten
  | 0, _, _, _ => .nil
  | n + 1, _, _, h => by
    rw [List.replicate_succ, List.replicate_succ, List.flatten_cons, List.flatten_cons]
    exact Dens.append h (Dens.rep n h)
theorem oP_add : OpS X W (binaryOp .Add) addR := by
  intro pins s0 σ0 H x y v u Q I rx ry ⟨σ, w, s, r1, r2, hS, h1, h2, hp⟩
  unfold addR at hp
  split at hp
  · rename_i i j e1 e2
    exact op_add pins s0 σ0 H x y v u Q I rx ry ⟨i, j, (look_ok hS e1 h1).int, (look_ok hS e2 h2).int, hp.sh hS (Nat.le_refl _) (.int _)⟩
  · rename_i xs ys e1 e2
    split at hp
    · rename_i hz
      obtain ⟨a, vs, rfl, l1, d1⟩ := (look_ok hS e1 h1).list
      obtain ⟨b, ws, rfl, l2, d2⟩ := (look_ok hS e2 h2).list
      cases rx
      cases ry
      obtain ⟨z1, its1, n1, q1, o1⟩ := l1.obj I
      obtain ⟨z2, its2, n2, q2, o2⟩ := l2.obj I
      have hz' : vs.length + ws.length ≤ sizeLine := by rw [d1.length, d2.length]; exact hz
      refine PySem.P.add_list o1 o2 ?_ (by simp only [List.size_toArray]; rw [← q1.length, ← q2.length]; exact hz')
      rw [List.append_toArray]
      exact ⟨V.ref _, _, I.lnew (t' := s0.toks) (q1.append q2) (by rw [List.length_append]; exact hz'), rfl, hp.new hS (Nat.le_refl _) (d1.append d2) I.fresh⟩
    · exact hp.elim
  · rename_i a b e1 e2
    split at hp
    · rename_i hz
      exact op_add_str pins s0 σ0 H x y v u Q I rx ry ⟨a, b, (look_ok hS e1 h1).str, (look_ok hS e2 h2).str, hz, hp.sh hS (Nat.le_refl _) (.str _)⟩
    · exact hp.elim
  · rename_i xs ys e1 e2
    split at hp
    · rename_i hz
      obtain ⟨hne, hz⟩ := hz
      obtain ⟨a, vs, rfl, l1, d1⟩ := (look_ok hS e1 h1).tup
      obtain ⟨b, ws, rfl, l2, d2⟩ := (look_ok hS e2 h2).tup
      have g1 := d1.length
      have g2 := d2.length
      refine op_catT pins s0 σ0 H _ _ v u Q I rx ry ⟨a, b, vs, ws, rfl, rfl, l1, l2, fun z => ?_, by omega, fun z => ?_, fun z p hn => ?_⟩
      · subst z
        exact hne (List.length_eq_zero_iff.mp g1.symm)
      · subst z
        have e0 : ys = [] := List.length_eq_zero_iff.mp g2.symm
        subst e0
        rw [List.append_nil] at hp
        exact hp.sh hS (Nat.le_refl _) (.tup l1 d1)
      · exact hp.tup hS (Nat.le_refl _) (d1.append d2) hn
    · exact hp.elim
  · exact hp.elim
theorem rep_fold (its : List Value) (m : Nat) : List.foldl (fun x1 x2 => x1 ++ x2) #[] (List.replicate m its.toArray) = (List.replicate m its).flatten.toArray := by
  have go : ∀ (m : Nat) (acc : List Value), List.foldl (fun x1 x2 => x1 ++ x2) acc.toArray (List.replicate m its.toArray) = (acc ++ (List.replicate m its).flatten).toArray := by
    intro m
    induction m with
    | zero => intro acc; simp
    | succ m ih =>
      intro acc
      rw [List.replicate_succ, List.foldl_cons, List.append_toArray, ih, List.replicate_succ, List.flatten_cons, List.append_assoc]
  exact (go m []).trans (by rw [List.nil_append])
theorem oP_mul : OpS X W (binaryOp .Mult) mulR := by
  intro pins s0 σ0 H x y v u Q I rx ry ⟨σ, w, s, r1, r2, hS, h1, h2, hp⟩
  unfold mulR at hp
  split at hp
  · rename_i i j e1 e2
    split at hp
    · rename_i hc
      exact op_mulY pins s0 σ0 H x y v u Q I rx ry ⟨i, j, (look_ok hS e1 h1).int, (look_ok hS e2 h2).int, hc, hp.sh hS (Nat.le_refl _) (.int _)⟩
    · exact hp.elim
  · rename_i xs k e1 e2
    split at hp
    · rename_i hz
      obtain ⟨⟨k2, k1⟩, hz⟩ := hz
      obtain ⟨a, vs, rfl, l1, d1⟩ := (look_ok hS e1 h1).list
      have ek := (look_ok hS e2 h2).int
      subst ek
      cases rx
      obtain ⟨t, rfl⟩ := ry
      obtain ⟨z1, its, n1, q1, o1⟩ := l1.obj I
      have gl := d1.length
      have ql := q1.length
      have big : its.length * k.toNat ≤ sizeLine := by rw [← ql, gl]; exact hz
      have small : (sizeLine : Nat) = 16777216 := sizeLine_eq
      have cap : ¬ its.toArray.size * k.toNat > (2 ^ 63 - 1) / 8 := by
        rw [List.size_toArray]
        omega
      have fit : ¬ (!Builtin.List.listFitsIndex k) = true := by
        rw [fitsIndex_both (by omega) (by omega)]
        exact Bool.false_ne_true
      have long : ¬ Builtin.List.listTooLong (its.toArray.size * k.toNat) = true := by
        rw [List.size_toArray, notLongL big]
        exact Bool.false_ne_true
      refine wpAny_binaryOp_repeat_ref (T := "list") (U := "int") (by decide) ⟨_, o1, rfl⟩ (fun s' => typeIs_int s' k t) noFill_list_mul F.fills_int_mul F.slot_int_rmul repeat_list F.slot_int_index.lookup
        (call_meets F.slot_int_rmul (typeIs_int s0 k t) F.entry_int_rmul (F.args_int_rmul_2 _ _) (int___rmul___int_list k t a its.toArray n1) ⟨o1, rfl, ⟨_, o1, rfl⟩, ?_⟩)
      refine call_meets F.slot_list_mul ⟨_, o1, rfl⟩ F.entry_list_mul (F.args_list_mul_2 _ _) (AutoListH.list___mul___list_int_3 a its.toArray n1 k t fit cap long) ⟨o1, ?_⟩
      have new : List.foldl (fun x1 x2 => x1 ++ x2) #[] (List.replicate (if its.toArray.isEmpty = true then 0 else k.toNat) its.toArray) = (List.replicate k.toNat its).flatten.toArray := by
        rw [rep_fold]
        cases its with
        | nil => simp
        | cons i0 r0 => rw [if_neg (by simp)]
      rw [new]
      refine ⟨V.ref _, _, I.lnew (t' := s0.toks) (q1.rep k.toNat) ?_, rfl, hp.new hS (Nat.le_refl _) (Dens.rep _ d1) I.fresh⟩
      rw [PyProof.Rows.lm_len_rep_flat, Nat.mul_comm, gl]
      exact hz
    · exact hp.elim
  · exact hp.elim
end
end E
/-! E3: displays, comparisons of data, subscripts, slices. -/
namespace E
open PySem PySem.Spec PyProof.Rows L2

/-! ### a value is fixed -/
def S.frz (s : S) : R → Option (D × S)
  | .sh d => some (d, s)
  | .own c => match s.cellAt c with
    | .lv ds => some (.list ds, s.put c (.fz ds))
    | .fz ds => some (.list ds, s)
    | .lk _ => none
    | .dead => none
def S.frzs (s : S) : List R → Option (List D × S)
  | [] => some ([], s)
  | r :: rs => match s.frz r with
    | none => none
    | some (d, s1) => match s1.frzs rs with
      | none => none
      | some (ds, s2) => some (d :: ds, s2)
section
variable {K : PySem.W.Frag} {mg : Str → Option Value} {W : WX} {w w' w₂ : Wd} {s s' s₂ : S} {H H' H₂ : Hp} {σ : St} {p q : Nat} {Z Z' : Addr → Prop} {Q : VK}
theorem cellAt_lv {c : Nat} {ds : List D} (h : s.cellAt c = .lv ds) : s.ce[c]? = some (.lv ds) := S.cellAt_some h (by simp)
theorem cellAt_fz {c : Nat} {ds : List D} (h : s.cellAt c = .fz ds) : s.ce[c]? = some (.fz ds) := S.cellAt_some h (by simp)
theorem frz_ok (hS : StR K w s σ H) {r : R} {d : D} {v : V} (h : s.frz r = some (d, s')) (hr : RR K w s.ce.length H v r) :
    ∃ w', StR K w' s' σ H ∧ Ext s.ce.length w s H w' s' H ∧ Den K w'.Z H v d ∧ s'.ce.length = s.ce.length := by
  cases r with
  | sh e =>
    have e1 : (e, s) = (d, s') := Option.some.inj h
    cases e1
    exact ⟨w, hS, Ext.refl (Nat.le_refl _), hr, rfl⟩
  | own c =>
    obtain ⟨rfl, hc⟩ := hr
    unfold S.frz at h
    cases e : s.cellAt c with
    | dead => simp only [e] at h; cases h
    | lk ds => simp only [e] at h; cases h
    | lv ds =>
      simp only [e] at h
      cases h
      obtain ⟨h1, h2, h3⟩ := hS.fix (cellAt_lv e)
      exact ⟨_, h1, h2, h3, put_len⟩
    | fz ds =>
      simp only [e] at h
      cases h
      obtain ⟨hz, xs, q, z⟩ := hS.cl c _ (cellAt_fz e)
      exact ⟨w, hS, Ext.refl (Nat.le_refl _), .lst (.inl ⟨hz, q⟩) z, rfl⟩
theorem frzs_ok : ∀ {rs : List R} {ds : List D} {vs : List V} {w : Wd} {s s' : S}, StR K w s σ H → s.frzs rs = some (ds, s') → RRs K w s.ce.length H vs rs →
    ∃ w', StR K w' s' σ H ∧ Ext s.ce.length w s H w' s' H ∧ Dens K w'.Z H vs ds ∧ s'.ce.length = s.ce.length
  | [], ds, vs, w, s, s', hS, h, hr => by
    have e1 : ([], s) = (ds, s') := Option.some.inj h
    cases e1
    cases hr
    exact ⟨w, hS, Ext.refl (Nat.le_refl _), .nil, rfl⟩
  | r :: rs, ds, vs, w, s, s', hS, h, hr => by
    unfold S.frzs at h
    cases hr with
    | cons h1 h2 =>
      cases e : s.frz r with
      | none => rw [e] at h; cases h
      | some q =>
        obtain ⟨d, s1⟩ := q
        rw [e] at h
        obtain ⟨w1, hS1, x1, d1, l1⟩ := frz_ok hS e h1
        have h2' := RRs.stay hS x1 (Nat.le_refl _) h2
        cases e2 : s1.frzs rs with
        | none => simp only [e2] at h; cases h
        | some q =>
          obtain ⟨ds', s2⟩ := q
          simp only [e2] at h
          cases h
          obtain ⟨w2, hS2, x2, d2, l2⟩ := frzs_ok hS1 e2 h2'
          have x2' : Ext s.ce.length w1 s1 H w2 _ H := x2.mono (by omega)
          exact ⟨w2, hS2, x1.trans x2' (Nat.le_refl _), .cons (Den.stay (hS1.stay x2) d1) d2, by omega⟩
end

/-! ### argument lists -/
def nilA : AS := fun s => .ok [] s
def consA (f : ES) (t : AS) : AS := fun s => (f s).bind fun r s1 => (t s1).bind fun rs s2 => .ok (r :: rs) s2
/-- a starred list or tuple -/
def starA (f : ES) (t : AS) : AS := fun s => (f s).bind fun r s1 => match s1.look r with
  | some (.list ds) => (t s1).bind fun rs s2 => .ok (ds.map R.sh ++ rs) s2
  | some (.tuple ds) => (t s1).bind fun rs s2 => .ok (ds.map R.sh ++ rs) s2
  | _ => .bad
section
variable {X : Cx} {W : WX} {e a b c : Expr} {es : List Expr} {f f1 f2 : ES} {t : AS} {g : R → R → S → Res R} {pos p : Pos}
theorem pa_imp {t t' : TA} (h : PA X es t) (hi : ∀ σ H Q, t' σ H Q → t σ H Q) : PA X es t' := ⟨fun pos pins s σ H Q I q => h.run pos pins s σ H Q I (hi σ H Q q)⟩
theorem sa_nil : SA X W [] nilA := pa_imp pa_nil fun σ H Q ⟨w, s, hS, h⟩ => h w H hS (Ext.refl (Nat.le_refl _)) [] .nil
theorem sa_cons (ha : SE X W e f) (hr : SA X W es t) (hs : starEach (e :: es) X.env = (false, eval e X.env) :: starEach es X.env := by rfl) : SA X W (e :: es) (consA f t) := by
  refine pa_imp (pa_cons ha hr hs) fun σ H Q ⟨w, s, hS, h⟩ => ?_
  refine ⟨w, s, hS, Post.mono (Post.split h) fun w1 r1 s1 H1 _ _ ⟨hS1, e1, h1⟩ v hv => ?_⟩
  refine ⟨w1, s1, hS1, Post.mono (Post.split (h1 s1.ce.length e1.ln)) fun w2 rs s2 H2 _ _ ⟨hS2, e2, h2⟩ vs hvs => ?_⟩
  exact h2 s2.ce.length e2.ln w2 H2 hS2 (Ext.refl (Nat.le_refl _)) _ (.cons (RR.stay hS1 e2 (Nat.le_refl _) hv) hvs)
/-- the items of a list that may still be open are data -/
theorem RRs.of_dens {K : PySem.W.Frag} {w : Wd} {n : Nat} {H : Hp} : ∀ {vs : List V} {ds : List D}, Dens K w.Z H vs ds → RRs K w n H vs (ds.map R.sh)
  | _, _, .nil => .nil
  | _, _, .cons h t => .cons h (RRs.of_dens t)
theorem RRs.append {K : PySem.W.Frag} {w : Wd} {n : Nat} {H : Hp} : ∀ {vs : List V} {rs : List R} {ws : List V} {qs : List R}, RRs K w n H vs rs → RRs K w n H ws qs → RRs K w n H (vs ++ ws) (rs ++ qs)
  | _, _, _, _, .nil, q => q
  | _, _, _, _, .cons h t, q => .cons h (RRs.append t q)
theorem sa_star (ha : SE X W e f) (hr : SA X W es t) (hs : starEach (.Starred e p :: es) X.env = (true, eval e X.env) :: starEach es X.env := by rfl) : SA X W (.Starred e p :: es) (starA f t) := by
  refine pa_imp (StX.pa_star ha hr hs) fun σ H Q ⟨w, s, hS, h⟩ => ?_
  refine ⟨w, s, hS, Post.mono (Post.split h) fun w1 r1 s1 H1 _ _ ⟨hS1, e1, h1⟩ v hv => ?_⟩
  have h1 := h1 s1.ce.length e1.ln
  have go : ∀ (xs : List V) (ds : List D), Dens X.K w1.Z H1 xs ds → Post X.K X.mg W σ s1.ce.length w1 s1 H1 ((t s1).bind fun rs s2 => .ok (ds.map R.sh ++ rs) s2) (fun w' rs s' H' => ∀ vs, RRs X.K w' s'.ce.length H' vs rs → Q vs H') →
      tA X.K X.mg W t σ H1 fun ys H2 => Q (xs ++ ys) H2 := fun xs ds hd hp => by
    refine ⟨w1, s1, hS1, Post.mono (Post.split hp) fun w2 rs s2 H2 _ _ ⟨hS2, e2, h2⟩ vs hvs => ?_⟩
    exact h2 s2.ce.length e2.ln w2 H2 hS2 (Ext.refl (Nat.le_refl _)) _ (RRs.append (RRs.of_dens (Dens.stay (hS1.stay e2) hd)) hvs)
  split at h1
  · rename_i ds el
    obtain ⟨a, xs, rfl, l, d⟩ := (look_ok hS1 el hv).list
    exact ⟨a, xs, rfl, .inr l.sq, go xs ds d h1⟩
  · rename_i ds el
    obtain ⟨a, xs, rfl, l, d⟩ := (look_ok hS1 el hv).tup
    exact ⟨a, xs, rfl, .inl l, go xs ds d h1⟩
  · exact h1.elim
end

/-! ### displays -/
def tupS (t : AS) : ES := fun s => (t s).bind fun rs s1 => match s1.frzs rs with
  | some (ds, s2) => if ds.length ≤ sizeLine then .ok (.sh (.tuple ds)) s2 else .bad
  | none => .bad
def lstS (t : AS) : ES := fun s => (t s).bind fun rs s1 => match s1.frzs rs with
  | some (ds, s2) => if ds.length ≤ sizeLine then .ok (.own s2.ce.length) (s2.push (.lv ds)) else .bad
  | none => .bad
section
variable {X : Cx} {W : WX} {e a b c : Expr} {es : List Expr} {f f1 f2 : ES} {t : AS} {pos p : Pos} {K : PySem.W.Frag} {mg : Str → Option Value} {w w' : Wd} {s s' : S} {H H' : Hp} {σ : St} {Q : VK}
theorem Post.move {α : Type} {q r' : Nat} {r : Res α} {Qx : Wd → α → S → Hp → Prop} (h : Post K mg W σ q w s H r Qx) (e : Ext q w s H w' s' H') (hq : q ≤ r') : Post K mg W σ r' w' s' H' r Qx := by
  cases r with
  | ok a s2 => exact fun w2 H2 h2 e2 => h w2 H2 h2 (e.trans e2 hq)
  | exc x s2 => exact fun w2 H2 cls dd h2 e2 => h w2 H2 cls dd h2 (e.trans e2 hq)
  | bad => exact h
theorem se_tup {k : Nat} (h : SA X W es t) : SE X W (.Tuple es k pos) (tupS t) := by
  refine pe_imp (pe_tup h) fun σ H Q ⟨w, s, hS, h⟩ => ?_
  refine ⟨w, s, hS, Post.mono (Post.split h) fun w1 rs s1 H1 _ _ ⟨hS1, e1, h1⟩ vs hvs => ?_⟩
  have h1 := h1 s1.ce.length e1.ln
  split at h1
  · rename_i ds s2 ef
    split at h1
    · rename_i hz
      obtain ⟨w2, hS2, x2, d2, l2⟩ := frzs_ok hS1 ef hvs
      refine ⟨by rw [d2.length]; exact hz, fun p hn => ?_⟩
      exact (h1.move x2 (Nat.le_of_eq l2.symm)).tup hS2 (Nat.le_refl _) d2 hn
    · exact h1.elim
  · exact h1.elim
theorem se_lst (h : SA X W es t) : SE X W (.List es pos) (lstS t) := by
  refine pe_imp (pe_lst h) fun σ H Q ⟨w, s, hS, h⟩ => ?_
  refine ⟨w, s, hS, Post.mono (Post.split h) fun w1 rs s1 H1 _ _ ⟨hS1, e1, h1⟩ vs hvs => ?_⟩
  have h1 := h1 s1.ce.length e1.ln
  split at h1
  · rename_i ds s2 ef
    split at h1
    · rename_i hz
      obtain ⟨w2, hS2, x2, d2, l2⟩ := frzs_ok hS1 ef hvs
      refine ⟨by rw [d2.length]; exact hz, fun p hn => ?_⟩
      exact (h1.move x2 (Nat.le_of_eq l2.symm)).new hS2 (Nat.le_refl _) d2 hn
    · exact h1.elim
  · exact h1.elim
end

/-! ### == and in -/
def isStr : D → Bool
  | .str _ => true
  | _ => false
def flatD : D → Bool
  | .none => true | .bool _ => true | .int _ => true | .str _ => true
  | _ => false
/-- two that == tells apart by content -/
def eqOk (d e : D) : Bool := (isStr d && isStr e) || (SeqAt.shaped d && SeqAt.shaped e)
def eqR (neg : Bool) : R → R → S → Res R := fun r1 r2 s => match s.look r1, s.look r2 with
  | some d, some e => if eqOk d e = true then .ok (.sh (.bool (if neg then !PyData.eqv d e else PyData.eqv d e))) s else .bad
  | _, _ => .bad
def inR (neg : Bool) : R → R → S → Res R := fun r1 r2 s => match s.look r1, s.look r2 with
  | some d, some (.tuple ds) => if flatD d = true ∧ ds.all flatD = true then .ok (.sh (.bool (if neg then !(ds.any fun z => PyData.eqv z d) else ds.any fun z => PyData.eqv z d))) s else .bad
  | some d, some (.list ds) => if flatD d = true ∧ ds.all flatD = true then .ok (.sh (.bool (if neg then !(ds.any fun z => PyData.eqv z d) else ds.any fun z => PyData.eqv z d))) s
      else if SeqAt.shaped d = true ∧ SeqAt.shaped (.list ds) = true then .ok (.sh (.bool (if neg then !(ds.any fun z => PyData.eqv z d) else ds.any fun z => PyData.eqv z d))) s else .bad
  | _, _ => .bad
section
variable {X : Cx} {W : WX} {e a b c : Expr} {es : List Expr} {f f1 f2 : ES} {t : AS} {pos p : Pos} {K : PySem.W.Frag} {mg : Str → Option Value} {w w' : Wd} {s s' : S} {H H' : Hp} {Z : Addr → Prop} {σ : St} {Q : VK}
theorem oP_eq (hu : X.A.units + 64 < cLine) : OpS X W (compareOp .Eq) (eqR false) := by
  intro pins s0 σ0 H x y v u Q I rx ry ⟨σ, w, s, r1, r2, hS, h1, h2, hp⟩
  unfold eqR at hp
  split at hp
  · rename_i d e e1 e2
    split at hp
    · rename_i hc
      have q := hp.sh hS (Nat.le_refl _) (.bl _)
      rcases Bool.or_eq_true_iff.mp hc with hc | hc
      · have ⟨c1, c2⟩ := Bool.and_eq_true_iff.mp hc
        cases d with
        | str x0 =>
          cases e with
          | str y0 =>
            have z1 := (look_ok hS e1 h1).str
            have z2 := (look_ok hS e2 h2).str
            subst z1 z2
            refine L2.op_eq pins s0 σ0 H _ _ v u Q I rx ry ⟨rfl, ?_⟩
            rw [dec_str]
            exact q
          | _ => cases c2
        | _ => cases c1
      · have ⟨c1, c2⟩ := Bool.and_eq_true_iff.mp hc
        exact op_eqD hu pins s0 σ0 H x y v u Q I rx ry ⟨d, e, (look_ok hS e1 h1).dp, (look_ok hS e2 h2).dp, c1, c2, q⟩
    · exact hp.elim
  · exact hp.elim
theorem oP_ne (hu : X.A.units + 64 < cLine) : OpS X W (compareOp .NotEq) (eqR true) := by
  intro pins s0 σ0 H x y v u Q I rx ry ⟨σ, w, s, r1, r2, hS, h1, h2, hp⟩
  unfold eqR at hp
  split at hp
  · rename_i d e e1 e2
    split at hp
    · rename_i hc
      have q := hp.sh hS (Nat.le_refl _) (.bl _)
      rcases Bool.or_eq_true_iff.mp hc with hc | hc
      · have ⟨c1, c2⟩ := Bool.and_eq_true_iff.mp hc
        cases d with
        | str x0 =>
          cases e with
          | str y0 =>
            have z1 := (look_ok hS e1 h1).str
            have z2 := (look_ok hS e2 h2).str
            subst z1 z2
            refine L2.op_ne pins s0 σ0 H _ _ v u Q I rx ry ⟨rfl, ?_⟩
            rw [dec_str]
            exact q
          | _ => cases c2
        | _ => cases c1
      · have ⟨c1, c2⟩ := Bool.and_eq_true_iff.mp hc
        exact op_neD hu pins s0 σ0 H x y v u Q I rx ry ⟨d, e, (look_ok hS e1 h1).dp, (look_ok hS e2 h2).dp, c1, c2, q⟩
    · exact hp.elim
  · exact hp.elim
theorem Den.flat {v : V} {d : D} (h : Den K Z H v d) (f : flatD d = true) : flatV v = true := by
  cases h <;> first | rfl | cases f
theorem Dens.flat : ∀ {vs : List V} {ds : List D}, Dens K Z H vs ds → ds.all flatD = true → vs.all flatV = true
  | _, _, .nil, _ => rfl
  | _, _, .cons h t, f => by
    rw [List.all_cons, Bool.and_eq_true] at f
    rw [List.all_cons, Den.flat h f.1, Dens.flat t f.2]
    rfl
theorem flat_eqv {v u : V} {d e : D} (h : Den K Z H v d) (k : Den K Z H u e) (f : flatD d = true) (f' : flatD e = true) : eqV v u = PyData.eqv d e := by
  cases h <;> cases k <;> first
    | rfl
    | exact absurd f Bool.false_ne_true
    | exact absurd f' Bool.false_ne_true
    | simp [eqV, PyData.eqv]
theorem flat_any {u : V} {e : D} (k : Den K Z H u e) (f' : flatD e = true) : ∀ {vs : List V} {ds : List D}, Dens K Z H vs ds → ds.all flatD = true → inV u vs = ds.any fun z => PyData.eqv z e
  | _, _, .nil, _ => rfl
  | _, _, .cons h t, f => by
    rw [List.all_cons, Bool.and_eq_true] at f
    have ih := flat_any k f' t f.2
    unfold inV at ih ⊢
    rw [List.any_cons, List.any_cons, ih, flat_eqv h k f.1 f']
theorem DL.flatDen {v : V} {d : D} (h : DL K Z H v d) (f : flatD d = true) : Den K Z H v d := by
  rcases h with h | ⟨a, xs, ds, rfl, rfl, q, z⟩
  · exact h
  · cases f
theorem oP_in (hu : X.A.units + 65 < cLine) : OpS X W (compareOp .In) (inR false) := by
  intro pins s0 σ0 H x y v u Q I rx ry ⟨σ, w, s, r1, r2, hS, h1, h2, hp⟩
  unfold inR at hp
  split at hp
  · rename_i d ds e1 e2
    split at hp
    · rename_i hc
      have q := hp.sh hS (Nat.le_refl _) (.bl _)
      obtain ⟨a, xs, rfl, l, z⟩ := (look_ok hS e2 h2).tup
      have k := (look_ok hS e1 h1).flatDen hc.1
      refine op_in_seq pins s0 σ0 H _ _ v u Q I rx ry ⟨a, xs, rfl, .inr l, k.flat hc.1, z.flat hc.2, ?_⟩
      rw [if_neg Bool.false_ne_true, flat_any k hc.1 z hc.2]
      exact q
    · exact hp.elim
  · rename_i d ds e1 e2
    split at hp
    · rename_i hc
      have q := hp.sh hS (Nat.le_refl _) (.bl _)
      obtain ⟨a, xs, rfl, l, z⟩ := (look_ok hS e2 h2).list
      have k := (look_ok hS e1 h1).flatDen hc.1
      refine op_in_seq pins s0 σ0 H _ _ v u Q I rx ry ⟨a, xs, rfl, .inl l.sq, k.flat hc.1, z.flat hc.2, ?_⟩
      rw [if_neg Bool.false_ne_true, flat_any k hc.1 z hc.2]
      exact q
    · split at hp
      · rename_i hc
        have q := hp.sh hS (Nat.le_refl _) (.bl _)
        exact op_inD hu pins s0 σ0 H _ _ v u Q I rx ry ⟨d, ds, (look_ok hS e1 h1).dp, (look_ok hS e2 h2).dp, hc.1, hc.2, q⟩
      · exact hp.elim
  · exact hp.elim
theorem oP_notIn (hu : X.A.units + 65 < cLine) : OpS X W (compareOp .NotIn) (inR true) := by
  intro pins s0 σ0 H x y v u Q I rx ry ⟨σ, w, s, r1, r2, hS, h1, h2, hp⟩
  unfold inR at hp
  split at hp
  · rename_i d ds e1 e2
    split at hp
    · rename_i hc
      have q := hp.sh hS (Nat.le_refl _) (.bl _)
      obtain ⟨a, xs, rfl, l, z⟩ := (look_ok hS e2 h2).tup
      have k := (look_ok hS e1 h1).flatDen hc.1
      refine op_notIn_seq pins s0 σ0 H _ _ v u Q I rx ry ⟨a, xs, rfl, .inr l, k.flat hc.1, z.flat hc.2, ?_⟩
      rw [if_pos rfl, flat_any k hc.1 z hc.2]
      exact q
    · exact hp.elim
  · rename_i d ds e1 e2
    split at hp
    · rename_i hc
      have q := hp.sh hS (Nat.le_refl _) (.bl _)
      obtain ⟨a, xs, rfl, l, z⟩ := (look_ok hS e2 h2).list
      have k := (look_ok hS e1 h1).flatDen hc.1
      refine op_notIn_seq pins s0 σ0 H _ _ v u Q I rx ry ⟨a, xs, rfl, .inl l.sq, k.flat hc.1, z.flat hc.2, ?_⟩
      rw [if_pos rfl, flat_any k hc.1 z hc.2]
      exact q
    · split at hp
      · rename_i hc
        have q := hp.sh hS (Nat.le_refl _) (.bl _)
        exact op_notInD hu pins s0 σ0 H _ _ v u Q I rx ry ⟨d, ds, (look_ok hS e1 h1).dp, (look_ok hS e2 h2).dp, hc.1, hc.2, q⟩
      · exact hp.elim
  · exact hp.elim
end

/-! ### is None, -, not -/
def isNone : D → Bool
  | .none => true
  | _ => false
def un1 (g : R → S → Res R) (f : ES) : ES := fun s => (f s).bind g
def isNR (neg : Bool) : R → S → Res R := fun r s => match s.look r with
  | some d => .ok (.sh (.bool (if neg then !isNone d else isNone d))) s
  | none => .bad
def negR : R → S → Res R := fun r s => match s.look r with
  | some (.int i) => .ok (.sh (.int (-i))) s
  | _ => .bad
section
variable {X : Cx} {W : WX} {e a b c : Expr} {es : List Expr} {f f1 f2 : ES} {t : AS} {pos p : Pos} {K : PySem.W.Frag} {mg : Str → Option Value} {w w' : Wd} {s s' : S} {H H' : Hp} {Z : Addr → Prop} {σ : St} {Q : VK}
theorem DL.isN {v : V} {d : D} (h : DL K Z H v d) : decide (v = .non) = isNone d := by
  rcases h with h | ⟨a, xs, ds, rfl, rfl, q, z⟩
  · cases h <;> simp [isNone]
  · simp [isNone]
theorem one_at {g : R → S → Res R} (h : tE K mg W (un1 g f) σ H Q) : tE K mg W f σ H fun x H1 => ∃ w s r, StR K w s σ H1 ∧ RR K w s.ce.length H1 x r ∧ Post K mg W σ s.ce.length w s H1 (g r s) (QV K Q) := by
  obtain ⟨w, s, hS, h⟩ := h
  refine ⟨w, s, hS, Post.mono (Post.split h) fun w1 r1 s1 H1 _ _ ⟨hS1, e1, h1⟩ v hv => ?_⟩
  exact ⟨w1, s1, r1, hS1, hv, h1 _ e1.ln⟩
theorem se_isN {j : Nat} {p' : Pos} (ha : SE X W a f) : SE X W (.Compare a [.Is] [.Constant .none j p'] pos) (un1 (isNR false) f) := by
  refine pe_imp (pe_cmp (pc_isN ha) rfl) fun σ H Q h => ?_
  refine (show tE X.K X.mg W f σ H _ from ?_)
  obtain ⟨w, s, hS, h⟩ := h
  refine ⟨w, s, hS, Post.mono (Post.split h) fun w1 r1 s1 H1 _ _ ⟨hS1, e1, h1⟩ v hv => ?_⟩
  have h1 := h1 s1.ce.length e1.ln
  unfold isNR at h1
  split at h1
  · rename_i d el
    have := h1.sh hS1 (Nat.le_refl _) (.bl _)
    rw [if_neg Bool.false_ne_true, ← (look_ok hS1 el hv).isN] at this
    exact this
  · exact h1.elim
theorem se_notN {j : Nat} {p' : Pos} (ha : SE X W a f) : SE X W (.Compare a [.IsNot] [.Constant .none j p'] pos) (un1 (isNR true) f) := by
  refine pe_imp (pe_cmp (pc_notN ha) rfl) fun σ H Q h => ?_
  refine (show tE X.K X.mg W f σ H _ from ?_)
  obtain ⟨w, s, hS, h⟩ := h
  refine ⟨w, s, hS, Post.mono (Post.split h) fun w1 r1 s1 H1 _ _ ⟨hS1, e1, h1⟩ v hv => ?_⟩
  have h1 := h1 s1.ce.length e1.ln
  unfold isNR at h1
  split at h1
  · rename_i d el
    have := h1.sh hS1 (Nat.le_refl _) (.bl _)
    rw [if_pos rfl, ← (look_ok hS1 el hv).isN] at this
    exact this
  · exact h1.elim
theorem se_neg (ha : SE X W a f) : SE X W (.UnaryOp .USub a pos) (un1 negR f) := by
  refine pe_imp (pe_un un_neg ha) fun σ H Q h => ?_
  obtain ⟨w, s, hS, h⟩ := h
  refine ⟨w, s, hS, Post.mono (Post.split h) fun w1 r1 s1 H1 _ _ ⟨hS1, e1, h1⟩ v hv => ?_⟩
  have h1 := h1 s1.ce.length e1.ln
  unfold negR at h1
  split at h1
  · rename_i i el
    exact ⟨i, (look_ok hS1 el hv).int, h1.sh hS1 (Nat.le_refl _) (.int _)⟩
  · exact h1.elim
end

/-! ### subscripts and slices -/
def atD (ds : List D) (i : Int) : Option D := L2.atI ds i
def idxR : R → R → S → Res R := fun r1 r2 s => match s.look r1, s.look r2 with
  | some (.list ds), some (.int i) => match atD ds i with
    | some d => .ok (.sh d) s
    | none => .bad
  | some (.tuple ds), some (.int i) => match atD ds i with
    | some d => .ok (.sh d) s
    | none => .bad
  | some (.str z), some (.int i) => if z.length ≤ sizeLine then match L2.atI z.cps.toList i with
    | some c => .ok (.sh (.str ⟨#[c]⟩)) s
    | none => .bad else .bad
  | _, _ => .bad
section
variable {X : Cx} {W : WX} {e a b c : Expr} {es : List Expr} {f f1 f2 f3 : ES} {t : AS} {pos p : Pos} {K : PySem.W.Frag} {mg : Str → Option Value} {w w' : Wd} {s s' : S} {H H' : Hp} {Z : Addr → Prop} {σ : St} {Q : VK}
theorem Dens.at {vs : List V} {ds : List D} (h : Dens K Z H vs ds) {i : Int} {d : D} (e : atD ds i = some d) : ∃ v, L2.atI vs i = some v ∧ Den K Z H v d := by
  unfold atD L2.atI at *
  rw [h.length]
  cases q : ixN ds.length i with
  | none => rw [q] at e; cases e
  | some j =>
    rw [q] at e
    exact h.get e
theorem ixr_any : IxR X (At2 X.K X.mg W idxR) := by
  intro value slice pins s0 σ0 H x y v u Q I rx ry ⟨σ, w, s, r1, r2, hS, h1, h2, hp⟩ hs
  unfold idxR at hp
  split at hp
  · rename_i ds i e1 e2
    split at hp
    · rename_i d ed
      obtain ⟨a, xs, rfl, l, z⟩ := (look_ok hS e1 h1).list
      obtain ⟨v0, g1, g2⟩ := z.at ed
      exact ix_list value slice pins s0 σ0 H _ y v u Q I rx ry ⟨a, xs, i, v0, rfl, (look_ok hS e2 h2).int, l.sq, g1, hp.sh hS (Nat.le_refl _) g2⟩ hs
    · exact hp.elim
  · rename_i ds i e1 e2
    split at hp
    · rename_i d ed
      obtain ⟨a, xs, rfl, l, z⟩ := (look_ok hS e1 h1).tup
      obtain ⟨v0, g1, g2⟩ := z.at ed
      exact ix_tup value slice pins s0 σ0 H _ y v u Q I rx ry ⟨a, xs, i, v0, rfl, (look_ok hS e2 h2).int, l, g1, hp.sh hS (Nat.le_refl _) g2⟩ hs
    · exact hp.elim
  · rename_i z i e1 e2
    split at hp
    · rename_i hz
      split at hp
      · rename_i c ec
        exact ix_str value slice pins s0 σ0 H _ y v u Q I rx ry ⟨z, i, c, (look_ok hS e1 h1).str, (look_ok hS e2 h2).int, hz, ec, hp.sh hS (Nat.le_refl _) (.str _)⟩ hs
      · exact hp.elim
    · exact hp.elim
  · exact hp.elim
theorem se_ix (ha : SE X W a f1) (hb : SE X W b f2) (hs : PlainIx b) : SE X W (.Subscript a b pos) (bin2 idxR f1 f2) := pe_imp (pe_ix ixr_any ha hb hs) fun σ H Q h => two_at h
/-- a slice's ends -/
def cutD (ds : List D) (lo hi : Option Int) : List D := (ds.drop (HT.sIx ds.length 0 lo)).take (HT.sIx ds.length ds.length hi - HT.sIx ds.length 0 lo)
def OS := S → Res (Option Int)
def noO : OS := fun s => .ok none s
def someO (f : ES) : OS := fun s => (f s).bind fun r s1 => match s1.look r with
  | some (.int i) => .ok (some i) s1
  | _ => .bad
def sliR (lo hi : Option Int) : R → S → Res R := fun r s => match s.look r with
  | some (.list ds) => .ok (.own s.ce.length) (s.push (.lv (cutD ds lo hi)))
  | some (.tuple ds) => if HT.sIx ds.length 0 lo = 0 ∧ HT.sIx ds.length ds.length hi = ds.length then .bad else .ok (.sh (.tuple (cutD ds lo hi))) s
  | some (.str z) => if z.length ≤ sizeLine then .ok (.sh (.str (L2.cutS z lo hi))) s else .bad
  | _ => .bad
def sliS (f : ES) (lo hi : OS) : ES := fun s => (f s).bind fun r s1 => (lo s1).bind fun l s2 => (hi s2).bind fun h s3 => sliR l h r s3
def tO (K : PySem.W.Frag) (mg : Str → Option Value) (W : WX) (f : OS) : TO := fun σ H Q => ∃ w s, StR K w s σ H ∧ Post K mg W σ s.ce.length w s H (f s) (fun _ o _ H' => Q o H')
def SO (X : Cx) (W : WX) (e : Option Expr) (f : OS) : Prop := PO X e (tO X.K X.mg W f)
theorem po_imp {e : Option Expr} {t t' : TO} (h : PO X e t) (hi : ∀ σ H Q, t' σ H Q → t σ H Q) : PO X e t' := ⟨fun pins s σ H Q I q => h.run pins s σ H Q I (hi σ H Q q)⟩
theorem so_none : SO X W none noO := po_imp po_none fun σ H Q ⟨w, s, hS, h⟩ => h w H hS (Ext.refl (Nat.le_refl _))
theorem so_some (h : SE X W e f) : SO X W (some e) (someO f) := by
  refine po_imp (po_some h) fun σ H Q ⟨w, s, hS, h⟩ => ?_
  refine ⟨w, s, hS, Post.mono (Post.split h) fun w1 r1 s1 H1 _ _ ⟨hS1, e1, h1⟩ v hv => ?_⟩
  have h1 := h1 s1.ce.length e1.ln
  split at h1
  · rename_i i el
    exact ⟨i, (look_ok hS1 el hv).int, h1 w1 H1 hS1 (Ext.refl (Nat.le_refl _))⟩
  · exact h1.elim
theorem cut_dens {vs : List V} {ds : List D} (h : Dens K Z H vs ds) (lo hi : Option Int) : Dens K Z H (cutV vs lo hi) (cutD ds lo hi) := by
  unfold cutV cutD
  rw [h.length]
  exact (h.drop _).take _
theorem slr_any : SlR X (fun x lo hi H Q => ∃ σ w s r, StR X.K w s σ H ∧ RR X.K w s.ce.length H x r ∧ Post X.K X.mg W σ s.ce.length w s H (sliR lo hi r s) (QV X.K Q)) := by
  intro pins s0 σ0 H x v vl vu lo hi sl Q I rx hs pl pu ⟨σ, w, s, r, hS, h1, hp⟩
  unfold sliR at hp
  split at hp
  · rename_i ds e1
    obtain ⟨a, xs, rfl, l, z⟩ := (look_ok hS e1 h1).list
    exact sl_list pins s0 σ0 H _ v vl vu lo hi sl Q I rx hs pl pu ⟨a, xs, rfl, l.sq, fun p hn => hp.new hS (Nat.le_refl _) (cut_dens z lo hi) hn⟩
  · rename_i ds e1
    obtain ⟨a, xs, rfl, l, z⟩ := (look_ok hS e1 h1).tup
    split at hp
    · exact hp.elim
    · rename_i hc
      exact sl_tup pins s0 σ0 H _ v vl vu lo hi sl Q I rx hs pl pu ⟨a, xs, rfl, l, by rw [z.length]; exact hc, fun p hn => hp.tup hS (Nat.le_refl _) (cut_dens z lo hi) hn⟩
  · rename_i z e1
    split at hp
    · rename_i hz
      exact sl_str pins s0 σ0 H _ v vl vu lo hi sl Q I rx hs pl pu ⟨z, (look_ok hS e1 h1).str, hz, hp.sh hS (Nat.le_refl _) (.str _)⟩
    · exact hp.elim
  · exact hp.elim
theorem se_slice {lo hi : Option Expr} {l h : OS} {p2 : Pos} (ha : SE X W a f) (hl : SO X W lo l) (hh : SO X W hi h) : SE X W (.Subscript a (.Slice lo hi none p2) pos) (sliS f l h) := by
  refine pe_imp (pe_slice (slr_any (W := W)) ha hl hh) fun σ H Q ⟨w, s, hS, hp⟩ => ?_
  refine ⟨w, s, hS, Post.mono (Post.split hp) fun w1 r1 s1 H1 _ _ ⟨hS1, e1, h1⟩ v hv => ?_⟩
  refine ⟨w1, s1, hS1, Post.mono (Post.split (h1 s1.ce.length e1.ln)) fun w2 o2 s2 H2 _ _ ⟨hS2, e2, h2⟩ => ?_⟩
  have hv2 := RR.stay hS1 e2 (Nat.le_refl _) hv
  refine ⟨w2, s2, hS2, Post.mono (Post.split (h2 s2.ce.length e2.ln)) fun w3 o3 s3 H3 _ _ ⟨hS3, e3, h3⟩ => ?_⟩
  exact ⟨σ, w3, s3, r1, hS3, RR.stay hS2 e3 (Nat.le_refl _) hv2, h3 _ e3.ln⟩
end
end E
/-! E4: tests, and, or, not; calls of built-ins; methods of lists. -/
namespace E
open PySem PySem.Spec PyProof.Rows L2

/-! ### tests -/
def truD : D → Bool
  | .none => false
  | .bool b => b
  | .int i => i != 0
  | .str x => ((x.length : Int) != 0)
  | .list ds => !ds.isEmpty
  | .tuple ds => !ds.isEmpty
  | .dict kv => !kv.isEmpty
def truOk : D → Bool
  | .str x => decide (x.length ≤ sizeLine)
  | .dict _ => false
  | _ => true
def truS (f : ES) : TS' := fun s => (f s).bind fun r s1 => match s1.look r with
  | some d => if truOk d = true then .ok (truD d) s1 else .bad
  | none => .bad
def boolT (f : ES) : TS' := fun s => (f s).bind fun r s1 => match r with
  | .sh (.bool b) => .ok b s1
  | _ => .bad
def notT (f : TS') : TS' := fun s => (f s).bind fun b s1 => .ok (!b) s1
def andT (f g : TS') : TS' := fun s => (f s).bind fun b s1 => if b = true then g s1 else .ok false s1
def orT (f g : TS') : TS' := fun s => (f s).bind fun b s1 => if b = true then .ok true s1 else g s1
section
variable {X : Cx} {W : WX} {e a b c : Expr} {es rest : List Expr} {f f1 f2 f3 : ES} {u u1 u2 : TS'} {t : AS} {g g' : R → R → S → Res R} {pos p : Pos} {K : PySem.W.Frag} {mg : Str → Option Value} {w w' : Wd} {s s' : S} {H H' : Hp} {Z : Addr → Prop} {σ : St} {Q : VK}
theorem isEmpty_dens {vs : List V} {ds : List D} (h : Dens K Z H vs ds) : vs.isEmpty = ds.isEmpty := by cases h <;> rfl
theorem tru_v {v : V} {d : D} (h : DL K Z H v d) (ho : truOk d = true) : TruV K v H (truD d) := by
  cases d with
  | none => rw [h.none]; rfl
  | bool b => rw [h.bool]; rfl
  | int i => rw [h.int]; rfl
  | str x => rw [h.str]; exact ⟨of_decide_eq_true ho, rfl⟩
  | list ds =>
    obtain ⟨a, xs, rfl, l, z⟩ := h.list
    exact .inl ⟨xs, l.sq, by rw [isEmpty_dens z]; rfl⟩
  | tuple ds =>
    obtain ⟨a, xs, rfl, l, z⟩ := h.tup
    exact .inr (.inl ⟨xs, l, by rw [isEmpty_dens z]; rfl⟩)
  | dict kv => cases ho
theorem st_truth (ha : SE X W a f) (he : ∀ whole, isTrue a X.env whole = (do let v ← whole; standAt a.pos; holding [v] (truthy v)) := by intro _; rfl) : ST X W a (truS f) := by
  refine pt_imp (pt_truth ha he) fun σ H Q ⟨w, s, hS, h⟩ => ?_
  refine ⟨w, s, hS, Post.mono (Post.split h) fun w1 r1 s1 H1 _ _ ⟨hS1, e1, h1⟩ v hv => ?_⟩
  have h1 := h1 s1.ce.length e1.ln
  split at h1
  · rename_i d el
    split at h1
    · rename_i hc
      exact ⟨truD d, tru_v (look_ok hS1 el hv) hc, h1 w1 H1 hS1 (Ext.refl (Nat.le_refl _))⟩
    · exact h1.elim
  · exact h1.elim
theorem bool_of {r : R} {b : Bool} {v : V} {n : Nat} (h : r = .sh (.bool b)) (hv : RR K w n H v r) : v = .bl b := by
  subst h
  cases (show Den K w.Z H v (.bool b) from hv)
  rfl
/-- a value that is a bool, as a test -/
theorem boolT_at {R' : V → Hp → Prop} {Qb : Bool → Hp → Prop} (h : tT K mg W (boolT f) σ H Qb) (hr : ∀ x H1, (∃ k, x = .bl k ∧ Qb k H1) → R' x H1) : tE K mg W f σ H R' := by
  obtain ⟨w, s, hS, h⟩ := h
  refine ⟨w, s, hS, Post.mono (Post.split h) fun w1 r1 s1 H1 _ _ ⟨hS1, e1, h1⟩ v hv => hr v H1 ?_⟩
  have h1 := h1 s1.ce.length e1.ln
  split at h1
  · exact ⟨_, bool_of rfl hv, h1 w1 H1 hS1 (Ext.refl (Nat.le_refl _))⟩
  · exact h1.elim
theorem st_cmp {op : CmpOp} (ho : OpS X W (compareOp op) g) (ha : SE X W a f1) (hb : SE X W b f2) (hm : behindInMarks op b = false) : ST X W (.Compare a [op] [b] pos) (boolT (bin2 g f1 f2)) :=
  pt_imp (pt_cmpR ho ha hb hm) fun σ H Q h => two_at (boolT_at h fun _ _ q => q)
theorem st_isN {j : Nat} {p' : Pos} (ha : SE X W a f) : ST X W (.Compare a [.Is] [.Constant .none j p'] pos) (boolT (un1 (isNR false) f)) := by
  refine pt_imp (pt_cmp (pc_isN ha) rfl) fun σ H Q h => ?_
  refine (show tE X.K X.mg W f σ H _ from ?_)
  obtain ⟨w, s, hS, h⟩ := boolT_at h fun _ _ q => q
  refine ⟨w, s, hS, Post.mono (Post.split h) fun w1 r1 s1 H1 _ _ ⟨hS1, e1, h1⟩ v hv => ?_⟩
  have h1 := h1 s1.ce.length e1.ln
  unfold isNR at h1
  split at h1
  · rename_i d el
    have := h1.sh hS1 (Nat.le_refl _) (.bl _)
    rw [if_neg Bool.false_ne_true, ← (look_ok hS1 el hv).isN] at this
    exact this
  · exact h1.elim
theorem st_notN {j : Nat} {p' : Pos} (ha : SE X W a f) : ST X W (.Compare a [.IsNot] [.Constant .none j p'] pos) (boolT (un1 (isNR true) f)) := by
  refine pt_imp (pt_cmp (pc_notN ha) rfl) fun σ H Q h => ?_
  refine (show tE X.K X.mg W f σ H _ from ?_)
  obtain ⟨w, s, hS, h⟩ := boolT_at h fun _ _ q => q
  refine ⟨w, s, hS, Post.mono (Post.split h) fun w1 r1 s1 H1 _ _ ⟨hS1, e1, h1⟩ v hv => ?_⟩
  have h1 := h1 s1.ce.length e1.ln
  unfold isNR at h1
  split at h1
  · rename_i d el
    have := h1.sh hS1 (Nat.le_refl _) (.bl _)
    rw [if_pos rfl, ← (look_ok hS1 el hv).isN] at this
    exact this
  · exact h1.elim
theorem st_not (ha : ST X W a u) : ST X W (.UnaryOp .Not a pos) (notT u) := by
  refine pt_imp (pt_not ha) fun σ H Q ⟨w, s, hS, h⟩ => ?_
  refine ⟨w, s, hS, Post.mono (Post.split h) fun w1 r1 s1 H1 _ _ ⟨hS1, e1, h1⟩ => ?_⟩
  exact h1 _ e1.ln w1 H1 hS1 (Ext.refl (Nat.le_refl _))
theorem pw_imp {t t' : TT} (h : PW X e t) (hi : ∀ σ H Q, t' σ H Q → t σ H Q) : PW X e t' := ⟨fun wh pins s σ H Q I q => h.run wh pins s σ H Q I (hi σ H Q q)⟩
theorem sw_and1 (ha : ST X W a u) : SW X W (.BoolOp .And [a] pos) u := pw_and1 ha
theorem sw_or1 (ha : ST X W a u) : SW X W (.BoolOp .Or [a] pos) u := pw_or1 ha
theorem and_at {Qb : Bool → Hp → Prop} (h : tT K mg W (andT u1 u2) σ H Qb) : tAnd (tT K mg W u1) (tT K mg W u2) σ H Qb := by
  obtain ⟨w, s, hS, h⟩ := h
  refine ⟨w, s, hS, Post.mono (Post.split h) fun w1 b1 s1 H1 _ _ ⟨hS1, e1, h1⟩ => ?_⟩
  have h1 := h1 s1.ce.length e1.ln
  cases b1 with
  | true => exact ⟨w1, s1, hS1, h1⟩
  | false => exact h1 w1 H1 hS1 (Ext.refl (Nat.le_refl _))
theorem or_at {Qb : Bool → Hp → Prop} (h : tT K mg W (orT u1 u2) σ H Qb) : tOr (tT K mg W u1) (tT K mg W u2) σ H Qb := by
  obtain ⟨w, s, hS, h⟩ := h
  refine ⟨w, s, hS, Post.mono (Post.split h) fun w1 b1 s1 H1 _ _ ⟨hS1, e1, h1⟩ => ?_⟩
  have h1 := h1 s1.ce.length e1.ln
  cases b1 with
  | true => exact h1 w1 H1 hS1 (Ext.refl (Nat.le_refl _))
  | false => exact ⟨w1, s1, hS1, h1⟩
theorem sw_and (ha : ST X W a u1) (hb : SW X W (.BoolOp .And (b :: rest) pos) u2) : SW X W (.BoolOp .And (a :: b :: rest) pos) (andT u1 u2) := pw_imp (pw_and ha hb) fun σ H Q h => and_at h
theorem sw_or (ha : ST X W a u1) (hb : SW X W (.BoolOp .Or (b :: rest) pos) u2) : SW X W (.BoolOp .Or (a :: b :: rest) pos) (orT u1 u2) := pw_imp (pw_or ha hb) fun σ H Q h => or_at h
theorem st_w (h : SW X W e u) : ST X W e u := PW.pt h

/-! ### .. as values -/
def andV (f g : ES) : ES := fun s => (f s).bind fun r s1 => match r with
  | .sh (.bool true) => g s1
  | .sh (.bool false) => .ok (.sh (.bool false)) s1
  | _ => .bad
def orV (f g : ES) : ES := fun s => (f s).bind fun r s1 => match r with
  | .sh (.bool true) => .ok (.sh (.bool true)) s1
  | .sh (.bool false) => g s1
  | _ => .bad
def notR : R → S → Res R := fun r s => match s.look r with
  | some d => if truOk d = true then .ok (.sh (.bool (!truD d))) s else .bad
  | none => .bad
def iteS (u : TS') (f g : ES) : ES := fun s => (u s).bind fun b s1 => if b = true then f s1 else g s1
def chainS (g g' : R → R → S → Res R) (f1 f2 f3 : ES) : ES := fun s => (f1 s).bind fun r1 s1 => (f2 s1).bind fun r2 s2 => (g r1 r2 s2).bind fun k s3 => match k with
  | .sh (.bool true) => (f3 s3).bind fun r3 s4 => g' r2 r3 s4
  | .sh (.bool false) => .ok (.sh (.bool false)) s3
  | _ => .bad
theorem se_one {op : BoolOp} (h : SE X W a f) : SE X W (.BoolOp op [a] pos) f := pe_one h
theorem se_and (ha : SE X W a f1) (hb : SE X W (.BoolOp .And (b :: rest) pos) f2) : SE X W (.BoolOp .And (a :: b :: rest) pos) (andV f1 f2) := by
  refine pe_imp (pe_and ha hb) fun σ H Q ⟨w, s, hS, h⟩ => ?_
  refine ⟨w, s, hS, Post.mono (Post.split h) fun w1 r1 s1 H1 _ _ ⟨hS1, e1, h1⟩ v hv => ?_⟩
  have h1 := h1 s1.ce.length e1.ln
  split at h1
  · exact ⟨true, bool_of rfl hv, ⟨w1, s1, hS1, h1⟩⟩
  · exact ⟨false, bool_of rfl hv, h1.sh hS1 (Nat.le_refl _) (.bl _)⟩
  · exact h1.elim
theorem se_or (ha : SE X W a f1) (hb : SE X W (.BoolOp .Or (b :: rest) pos) f2) : SE X W (.BoolOp .Or (a :: b :: rest) pos) (orV f1 f2) := by
  refine pe_imp (pe_or ha hb) fun σ H Q ⟨w, s, hS, h⟩ => ?_
  refine ⟨w, s, hS, Post.mono (Post.split h) fun w1 r1 s1 H1 _ _ ⟨hS1, e1, h1⟩ v hv => ?_⟩
  have h1 := h1 s1.ce.length e1.ln
  split at h1
  · exact ⟨true, bool_of rfl hv, h1.sh hS1 (Nat.le_refl _) (.bl _)⟩
  · exact ⟨false, bool_of rfl hv, ⟨w1, s1, hS1, h1⟩⟩
  · exact h1.elim
theorem se_not (ha : SE X W a f) : SE X W (.UnaryOp .Not a pos) (un1 notR f) := by
  refine pe_imp (pe_notT ha) fun σ H Q ⟨w, s, hS, h⟩ => ?_
  refine ⟨w, s, hS, Post.mono (Post.split h) fun w1 r1 s1 H1 _ _ ⟨hS1, e1, h1⟩ v hv => ?_⟩
  have h1 := h1 s1.ce.length e1.ln
  unfold notR at h1
  split at h1
  · rename_i d el
    split at h1
    · rename_i hc
      exact ⟨truD d, tru_v (look_ok hS1 el hv) hc, h1.sh hS1 (Nat.le_refl _) (.bl _)⟩
    · exact h1.elim
  · exact h1.elim
theorem se_ite (hc : ST X W c u) (ha : SE X W a f1) (hb : SE X W b f2) : SE X W (.IfExp c a b pos) (iteS u f1 f2) := by
  refine pe_imp (pe_ifExp hc ha hb) fun σ H Q ⟨w, s, hS, h⟩ => ?_
  refine ⟨w, s, hS, Post.mono (Post.split h) fun w1 b1 s1 H1 _ _ ⟨hS1, e1, h1⟩ => ?_⟩
  have h1 := h1 s1.ce.length e1.ln
  cases b1 with
  | true => exact ⟨w1, s1, hS1, h1⟩
  | false => exact ⟨w1, s1, hS1, h1⟩
theorem chain_at (h : tE K mg W (chainS g g' f1 f2 f3) σ H Q) : tChain (At2 K mg W g) (At2 K mg W g') (tE K mg W f1) (tE K mg W f2) (tE K mg W f3) σ H Q := by
  obtain ⟨w, s, hS, h⟩ := h
  refine ⟨w, s, hS, Post.mono (Post.split h) fun w1 r1 s1 H1 _ _ ⟨hS1, e1, h1⟩ v1 hv1 => ?_⟩
  refine ⟨w1, s1, hS1, Post.mono (Post.split (h1 s1.ce.length e1.ln)) fun w2 r2 s2 H2 _ _ ⟨hS2, e2, h2⟩ v2 hv2 => ?_⟩
  have hv1' := RR.stay hS1 e2 (Nat.le_refl _) hv1
  refine ⟨σ, w2, s2, r1, r2, hS2, hv1', hv2, Post.mono (Post.split (h2 s2.ce.length e2.ln)) fun w3 k s3 H3 _ _ ⟨hS3, e3, h3⟩ v3 hv3 => ?_⟩
  have hv2' := RR.stay hS2 e3 (Nat.le_refl _) hv2
  have h3 := h3 s3.ce.length e3.ln
  split at h3
  · refine ⟨true, bool_of rfl hv3, ?_⟩
    rw [if_pos rfl]
    refine ⟨w3, s3, hS3, Post.mono (Post.split h3) fun w4 r4 s4 H4 _ _ ⟨hS4, e4, h4⟩ v4 hv4 => ?_⟩
    exact ⟨σ, w4, s4, r2, r4, hS4, RR.stay hS3 e4 (Nat.le_refl _) hv2', hv4, h4 _ e4.ln⟩
  · refine ⟨false, bool_of rfl hv3, ?_⟩
    rw [if_neg Bool.false_ne_true]
    exact h3.sh hS3 (Nat.le_refl _) (.bl _)
  · exact h3.elim
theorem se_chain {op op' : CmpOp} (ho : OpS X W (compareOp op) g) (ho' : OpS X W (compareOp op') g') (ha : SE X W a f1) (hb : SE X W b f2) (hc : SE X W c f3) (hm : lastMarks [op, op'] [b, c] = false := by with_unfolding_all rfl) :
    SE X W (.Compare a [op, op'] [b, c] pos) (chainS g g' f1 f2 f3) := pe_imp (pe_chain ho ho' ha hb hc hm) fun σ H Q h => chain_at h
theorem st_chain {op op' : CmpOp} (ho : OpS X W (compareOp op) g) (ho' : OpS X W (compareOp op') g') (ha : SE X W a f1) (hb : SE X W b f2) (hc : SE X W c f3) (hm : lastMarks [op, op'] [b, c] = false := by with_unfolding_all rfl) :
    ST X W (.Compare a [op, op'] [b, c] pos) (boolT (chainS g g' f1 f2 f3)) := pt_imp (pt_chain ho ho' ha hb hc hm) fun σ H Q h => chain_at (boolT_at h fun _ _ q => q)
end

/-! ### built-ins by values -/
def AtN (K : PySem.W.Frag) (mg : Str → Option Value) (W : WX) (g : List R → S → Res R) : List V → Hp → VK → Prop := fun xs H Q =>
  ∃ σ w s rs, StR K w s σ H ∧ RRs K w s.ce.length H xs rs ∧ Post K mg W σ s.ce.length w s H (g rs s) (QV K Q)
def CallS (X : Cx) (W : WX) (f : Value) (g : List R → S → Res R) : Prop := CallR X f (AtN X.K X.mg W g)
def callG (g : List R → S → Res R) (t : AS) : ES := fun s => (t s).bind g
section
variable {X : Cx} {W : WX} {e a b c : Expr} {es rest : List Expr} {f f1 f2 f3 : ES} {u u1 u2 : TS'} {t : AS} {g : List R → S → Res R} {pos p : Pos} {K : PySem.W.Frag} {mg : Str → Option Value} {w w' : Wd} {s s' : S} {H H' : Hp} {Z : Addr → Prop} {σ : St} {Q : VK} {x : Str} {id T : String}
theorem args_at (h : tE K mg W (callG g t) σ H Q) : tA K mg W t σ H fun vs H1 => AtN K mg W g vs H1 Q := by
  obtain ⟨w, s, hS, h⟩ := h
  refine ⟨w, s, hS, Post.mono (Post.split h) fun w1 rs s1 H1 _ _ ⟨hS1, e1, h1⟩ vs hvs => ?_⟩
  exact ⟨σ, w1, s1, rs, hS1, hvs, h1 _ e1.ln⟩
theorem se_callB (hc : CallS X W (.builtin id) g) (hg : Gl X x) (hm : X.mg x = none) (hv : bootBuiltins x = some (.builtin id)) (ha : SA X W (e :: es) t) (hn : x ≠ "__name__" := by decide) (hdb : (x == ("__debug__" : Str)) = false := by decide)
    (he : starEach (e :: es) X.env = (false, eval e X.env) :: starEach es X.env := by rfl) (hpl : (backTo pos (starEach es X.env)).any (·.1) = false := by rfl) : SE X W (.Call (.Name x p) (e :: es) [] pos) (callG g t) :=
  pe_imp (pe_callB hc hg hm hv ha hn hdb he hpl) fun σ H Q h => args_at h
theorem se_callTy (hc : CallS X W (.type T) g) (hg : Gl X x) (hm : X.mg x = none) (hv : bootBuiltins x = some (.type T)) (ha : SA X W (e :: es) t) (hn : x ≠ "__name__" := by decide) (hdb : (x == ("__debug__" : Str)) = false := by decide)
    (he : starEach (e :: es) X.env = (false, eval e X.env) :: starEach es X.env := by rfl) (hpl : (backTo pos (starEach es X.env)).any (·.1) = false := by rfl) : SE X W (.Call (.Name x p) (e :: es) [] pos) (callG g t) :=
  pe_imp (pe_callTy hc hg hm hv ha hn hdb he hpl) fun σ H Q h => args_at h
theorem RRs.one {n : Nat} {xs : List V} {r : R} (h : RRs K w n H xs [r]) : ∃ v, xs = [v] ∧ RR K w n H v r := by
  cases h with
  | cons h1 h2 => cases h2; exact ⟨_, rfl, h1⟩
theorem RRs.two {n : Nat} {xs : List V} {r r' : R} (h : RRs K w n H xs [r, r']) : ∃ v v', xs = [v, v'] ∧ RR K w n H v r ∧ RR K w n H v' r' := by
  cases h with
  | cons h1 h2 =>
    obtain ⟨v', rfl, h3⟩ := RRs.one h2
    exact ⟨_, v', rfl, h1, h3⟩
theorem RRs.three {n : Nat} {xs : List V} {r r' r'' : R} (h : RRs K w n H xs [r, r', r'']) : ∃ v v' v'', xs = [v, v', v''] ∧ RR K w n H v r ∧ RR K w n H v' r' ∧ RR K w n H v'' r'' := by
  cases h with
  | cons h1 h2 =>
    obtain ⟨v', v'', rfl, h3, h4⟩ := RRs.two h2
    exact ⟨_, v', v'', rfl, h1, h3, h4⟩
end
/-- one argument, by its data -/
def g1 (o : D → S → Res R) : List R → S → Res R := fun rs s => match rs with
  | [r] => match s.look r with
    | some d => o d s
    | none => .bad
  | _ => .bad
def g2 (o : D → D → S → Res R) : List R → S → Res R := fun rs s => match rs with
  | [r, r'] => match s.look r, s.look r' with
    | some d, some d' => o d d' s
    | _, _ => .bad
  | _ => .bad
def intsOf : List D → Option (List Int)
  | [] => some []
  | .int i :: r => (intsOf r).map (i :: ·)
  | _ :: _ => none
def boolsOf : List D → Option (List Bool)
  | [] => some []
  | .bool i :: r => (boolsOf r).map (i :: ·)
  | _ :: _ => none
def lenD : D → S → Res R := fun d s => match d with
  | .list ds => .ok (.sh (.int ds.length)) s
  | .tuple ds => .ok (.sh (.int ds.length)) s
  | .str x => if x.length ≤ sizeLine then .ok (.sh (.int x.length)) s else .bad
  | _ => .bad
def intD : D → S → Res R := fun d s => match d with
  | .int i => .ok (.sh (.int i)) s
  | .bool b => .ok (.sh (.int (if b then 1 else 0))) s
  | _ => .bad
def absD : D → S → Res R := fun d s => match d with
  | .int i => .ok (.sh (.int (if i < 0 then -i else i))) s
  | _ => .bad
def max2D : D → D → S → Res R := fun d e s => match d, e with
  | .int i, .int j => .ok (.sh (.int (if j > i then j else i))) s
  | _, _ => .bad
def min2D : D → D → S → Res R := fun d e s => match d, e with
  | .int i, .int j => .ok (.sh (.int (if j < i then j else i))) s
  | _, _ => .bad
def sumD : D → S → Res R := fun d s => match d with
  | .list ds => match intsOf ds with
    | some ns => .ok (.sh (.int ns.sum)) s
    | none => .bad
  | _ => .bad
def listMax : List Int → Int
  | [] => 0
  | a :: r => r.foldl (fun m x => if x > m then x else m) a
def listMin : List Int → Int
  | [] => 0
  | a :: r => r.foldl (fun m x => if x < m then x else m) a
def maxLD : D → S → Res R := fun d s => match d with
  | .list ds => match intsOf ds with
    | some (a :: r) => .ok (.sh (.int (listMax (a :: r)))) s
    | _ => .bad
  | _ => .bad
def minLD : D → S → Res R := fun d s => match d with
  | .list ds => match intsOf ds with
    | some (a :: r) => .ok (.sh (.int (listMin (a :: r)))) s
    | _ => .bad
  | _ => .bad
def allD : D → S → Res R := fun d s => match d with
  | .list ds => match boolsOf ds with
    | some bs => .ok (.sh (.bool (bs.all id))) s
    | none => .bad
  | _ => .bad
def anyD : D → S → Res R := fun d s => match d with
  | .list ds => match boolsOf ds with
    | some bs => .ok (.sh (.bool (bs.any id))) s
    | none => .bad
  | _ => .bad
def listD : D → S → Res R := fun d s => match d with
  | .list ds => .ok (.own s.ce.length) (s.push (.lv ds))
  | .tuple ds => .ok (.own s.ce.length) (s.push (.lv ds))
  | _ => .bad
def tupleD : D → S → Res R := fun d s => match d with
  | .list ds => .ok (.sh (.tuple ds)) s
  | .tuple ds => .ok (.sh (.tuple ds)) s
  | _ => .bad
def insI (x : Int) : List Int → List Int
  | [] => [x]
  | y :: r => if x ≤ y then x :: y :: r else y :: insI x r
def sortI : List Int → List Int
  | [] => []
  | x :: r => insI x (sortI r)
def sortD : D → S → Res R := fun d s => match d with
  | .list ds => match intsOf ds with
    | some ns => .ok (.own s.ce.length) (s.push (.lv ((sortI ns).map PyData.int)))
    | none => .bad
  | _ => .bad
def reprD : D → S → Res R := fun d s => if d.showable = true ∧ d.hasDict = false ∧ d.depth ≤ 50 ∧ d.shown.length ≤ sizeLine then .ok (.sh (.str d.shown)) s else .bad
def strD : D → S → Res R := fun d s => match d with
  | .int i => if i.natAbs.log2 < 1920 then .ok (.sh (.str (Str.ofString (toString i)))) s else .bad
  | .str x => .ok (.sh (.str x)) s
  | _ => .bad
def divmodD : D → D → S → Res R := fun d e s => match d, e with
  | .int i, .int j => if 0 < j ∧ j < 1073741824 then .ok (.sh (.tuple [.int (i / j), .int (i % j)])) s else .bad
  | _, _ => .bad
section
variable {X : Cx} {W : WX} {e a b c : Expr} {es rest : List Expr} {f f1 f2 f3 : ES} {u u1 u2 : TS'} {t : AS} {g : List R → S → Res R} {pos p : Pos} {K : PySem.W.Frag} {mg : Str → Option Value} {w w' : Wd} {s s' : S} {H H' : Hp} {Z : Addr → Prop} {σ : St} {Q : VK} {x : Str} {id T : String}
/-- from the rule over data -/
theorem cs1 {fv : Value} {o : D → S → Res R} (h : ∀ (pins : List (Addr × Obj)) (s0 : Shared) (σ0 : St) (H : Hp) (v : V) (us : List Value) (Q : VK) (σ : St) (w : Wd) (s : S) (d : D), Inv X pins σ0 H s0 → Vals [v] us → StR X.K w s σ H → DL X.K w.Z H v d →
      Post X.K X.mg W σ s.ce.length w s H (o d s) (QV X.K Q) → wpAny (model X.prog X.w) X.A (call fv us) (EP X pins σ0 Q) X.xe s0) : CallS X W fv (g1 o) := by
  intro pins s0 σ0 H xs us Q I r ⟨σ, w, s, rs, hS, hr, hp⟩
  unfold g1 at hp
  split at hp
  · rename_i r1
    obtain ⟨v, rfl, hv⟩ := hr.one
    split at hp
    · rename_i d el
      exact h pins s0 σ0 H v us Q σ w s d I r hS (look_ok hS el hv) hp
    · exact hp.elim
  · exact hp.elim
theorem cs2 {fv : Value} {o : D → D → S → Res R} (h : ∀ (pins : List (Addr × Obj)) (s0 : Shared) (σ0 : St) (H : Hp) (v v' : V) (us : List Value) (Q : VK) (σ : St) (w : Wd) (s : S) (d d' : D), Inv X pins σ0 H s0 → Vals [v, v'] us → StR X.K w s σ H → DL X.K w.Z H v d → DL X.K w.Z H v' d' →
      Post X.K X.mg W σ s.ce.length w s H (o d d' s) (QV X.K Q) → wpAny (model X.prog X.w) X.A (call fv us) (EP X pins σ0 Q) X.xe s0) : CallS X W fv (g2 o) := by
  intro pins s0 σ0 H xs us Q I r ⟨σ, w, s, rs, hS, hr, hp⟩
  unfold g2 at hp
  split at hp
  · rename_i r1 r2
    obtain ⟨v, v', rfl, hv, hv'⟩ := hr.two
    split at hp
    · rename_i d d' el el'
      exact h pins s0 σ0 H v v' us Q σ w s d d' I r hS (look_ok hS el hv) (look_ok hS el' hv') hp
    · exact hp.elim
  · exact hp.elim
theorem c_len : CallS X W (.builtin "len") (g1 lenD) := cs1 fun pins s0 σ0 H v us Q σ w s d I r hS hd hp => by
  unfold lenD at hp
  split at hp
  · rename_i ds
    obtain ⟨a, xs, rfl, l, z⟩ := hd.list
    have q := hp.sh hS (Nat.le_refl _) (.int _)
    rw [← z.length] at q
    exact call_len_seq pins s0 σ0 H _ us Q I r ⟨a, xs, rfl, .inl l.sq, q⟩
  · rename_i ds
    obtain ⟨a, xs, rfl, l, z⟩ := hd.tup
    have q := hp.sh hS (Nat.le_refl _) (.int _)
    rw [← z.length] at q
    exact call_len_seq pins s0 σ0 H _ us Q I r ⟨a, xs, rfl, .inr l, q⟩
  · rename_i x
    split at hp
    · rename_i hz
      have := hd.str
      subst this
      exact call_len_str pins s0 σ0 H _ us Q I r ⟨x, rfl, hz, hp.sh hS (Nat.le_refl _) (.int _)⟩
    · exact hp.elim
  · exact hp.elim
theorem c_int : CallS X W (.type "int") (g1 intD) := cs1 fun pins s0 σ0 H v us Q σ w s d I r hS hd hp => by
  unfold intD at hp
  split at hp
  · rename_i i
    have := hd.int
    subst this
    exact call_int1 pins s0 σ0 H _ us Q I r (.inl ⟨i, rfl, hp.sh hS (Nat.le_refl _) (.int _)⟩)
  · rename_i b
    have := hd.bool
    subst this
    exact call_int1 pins s0 σ0 H _ us Q I r (.inr ⟨b, rfl, hp.sh hS (Nat.le_refl _) (.int _)⟩)
  · exact hp.elim
theorem c_abs : CallS X W (.builtin "abs") (g1 absD) := cs1 fun pins s0 σ0 H v us Q σ w s d I r hS hd hp => by
  unfold absD at hp
  split at hp
  · rename_i i
    have := hd.int
    subst this
    exact call_abs pins s0 σ0 H _ us Q I r ⟨i, rfl, hp.sh hS (Nat.le_refl _) (.int _)⟩
  · exact hp.elim
theorem c_max2 (hc : X.calm = true) : CallS X W (.builtin "max") (g2 max2D) := cs2 fun pins s0 σ0 H v v' us Q σ w s d d' I r hS hd hd' hp => by
  unfold max2D at hp
  split at hp
  · rename_i i j
    have e1 := hd.int
    have e2 := hd'.int
    subst e1 e2
    exact call_max2 hc pins s0 σ0 H _ us Q I r ⟨i, j, rfl, hp.sh hS (Nat.le_refl _) (.int _)⟩
  · exact hp.elim
theorem c_min2 (hc : X.calm = true) : CallS X W (.builtin "min") (g2 min2D) := cs2 fun pins s0 σ0 H v v' us Q σ w s d d' I r hS hd hd' hp => by
  unfold min2D at hp
  split at hp
  · rename_i i j
    have e1 := hd.int
    have e2 := hd'.int
    subst e1 e2
    exact call_min2 hc pins s0 σ0 H _ us Q I r ⟨i, j, rfl, hp.sh hS (Nat.le_refl _) (.int _)⟩
  · exact hp.elim
theorem intsOf_v : ∀ {ds : List D} {ns : List Int} {vs : List V}, intsOf ds = some ns → Dens K Z H vs ds → vs = ns.map V.int
  | [], ns, vs, h, z => by
    cases z
    have : [] = ns := Option.some.inj h
    subst this
    rfl
  | d :: r, ns, vs, h, z => by
    cases z with
    | cons z1 z2 =>
      cases d with
      | int i =>
        have h' : (intsOf r).map (i :: ·) = some ns := h
        cases e : intsOf r with
        | none => rw [e] at h'; cases h'
        | some ms =>
          rw [e] at h'
          cases h'
          cases z1
          rw [List.map_cons, intsOf_v e z2]
      | _ => cases h
theorem boolsOf_v : ∀ {ds : List D} {ns : List Bool} {vs : List V}, boolsOf ds = some ns → Dens K Z H vs ds → vs = ns.map V.bl
  | [], ns, vs, h, z => by
    cases z
    have : [] = ns := Option.some.inj h
    subst this
    rfl
  | d :: r, ns, vs, h, z => by
    cases z with
    | cons z1 z2 =>
      cases d with
      | bool i =>
        have h' : (boolsOf r).map (i :: ·) = some ns := h
        cases e : boolsOf r with
        | none => rw [e] at h'; cases h'
        | some ms =>
          rw [e] at h'
          cases h'
          cases z1
          rw [List.map_cons, boolsOf_v e z2]
      | _ => cases h
theorem c_sum (hc : X.calm = true) : CallS X W (.builtin "sum") (g1 sumD) := cs1 fun pins s0 σ0 H v us Q σ w s d I r hS hd hp => by
  unfold sumD at hp
  split at hp
  · rename_i ds
    split at hp
    · rename_i ns en
      obtain ⟨a, xs, rfl, l, z⟩ := hd.list
      have ez := intsOf_v en z
      subst ez
      exact cr_sum hc pins s0 σ0 H _ us Q I r ⟨a, ns, rfl, l.sq, hp.sh hS (Nat.le_refl _) (.int _)⟩
    · exact hp.elim
  · exact hp.elim
theorem listMax_is : ∀ (r : List Int) (a m : Int), m ∈ a :: r → (∀ y ∈ a :: r, y ≤ m) → r.foldl (fun m x => if x > m then x else m) a = m
  | [], a, m, h, _ => by
    have : m = a := by simpa using h
    exact this.symm
  | b :: r, a, m, h, h2 => by
    rw [List.foldl_cons]
    refine listMax_is r _ m ?_ fun y hy => ?_
    · have ha := h2 a (by simp)
      have hb := h2 b (by simp)
      rcases List.mem_cons.mp h with rfl | h
      · by_cases c : b > m
        · omega
        · rw [if_neg c]; exact List.mem_cons_self
      · rcases List.mem_cons.mp h with rfl | h
        · by_cases c : m > a
          · rw [if_pos c]; exact List.mem_cons_self
          · rw [if_neg c]
            have : m = a := by omega
            rw [this]; exact List.mem_cons_self
        · exact List.mem_cons_of_mem _ h
    · rcases List.mem_cons.mp hy with rfl | hy
      · have ha := h2 a (by simp)
        have hb := h2 b (by simp)
        split <;> omega
      · exact h2 y (by simp [hy])
theorem listMin_is : ∀ (r : List Int) (a m : Int), m ∈ a :: r → (∀ y ∈ a :: r, m ≤ y) → r.foldl (fun m x => if x < m then x else m) a = m
  | [], a, m, h, _ => by
    have : m = a := by simpa using h
    exact this.symm
  | b :: r, a, m, h, h2 => by
    rw [List.foldl_cons]
    refine listMin_is r _ m ?_ fun y hy => ?_
    · have ha := h2 a (by simp)
      have hb := h2 b (by simp)
      rcases List.mem_cons.mp h with rfl | h
      · by_cases c : b < m
        · omega
        · rw [if_neg c]; exact List.mem_cons_self
      · rcases List.mem_cons.mp h with rfl | h
        · by_cases c : m < a
          · rw [if_pos c]; exact List.mem_cons_self
          · rw [if_neg c]
            have : m = a := by omega
            rw [this]; exact List.mem_cons_self
        · exact List.mem_cons_of_mem _ h
    · rcases List.mem_cons.mp hy with rfl | hy
      · have ha := h2 a (by simp)
        have hb := h2 b (by simp)
        split <;> omega
      · exact h2 y (by simp [hy])
theorem c_maxL (hc : X.calm = true) : CallS X W (.builtin "max") (g1 maxLD) := cs1 fun pins s0 σ0 H v us Q σ w s d I r hS hd hp => by
  unfold maxLD at hp
  split at hp
  · rename_i ds
    split at hp
    · rename_i n0 nr en
      obtain ⟨a, xs, rfl, l, z⟩ := hd.list
      have ez := intsOf_v en z
      subst ez
      refine cr_max hc pins s0 σ0 H _ us Q I r ⟨a, _, rfl, l.sq, by simp, fun m hm hle => ?_⟩
      have q := hp.sh hS (Nat.le_refl _) (.int _)
      have em : listMax (n0 :: nr) = m := listMax_is nr n0 m hm hle
      rw [em] at q
      exact q
    · exact hp.elim
  · exact hp.elim
theorem c_minL (hc : X.calm = true) : CallS X W (.builtin "min") (g1 minLD) := cs1 fun pins s0 σ0 H v us Q σ w s d I r hS hd hp => by
  unfold minLD at hp
  split at hp
  · rename_i ds
    split at hp
    · rename_i n0 nr en
      obtain ⟨a, xs, rfl, l, z⟩ := hd.list
      have ez := intsOf_v en z
      subst ez
      refine cr_min hc pins s0 σ0 H _ us Q I r ⟨a, _, rfl, l.sq, by simp, fun m hm hle => ?_⟩
      have q := hp.sh hS (Nat.le_refl _) (.int _)
      have em : listMin (n0 :: nr) = m := listMin_is nr n0 m hm hle
      rw [em] at q
      exact q
    · exact hp.elim
  · exact hp.elim
theorem c_all (hc : X.calm = true) : CallS X W (.builtin "all") (g1 allD) := cs1 fun pins s0 σ0 H v us Q σ w s d I r hS hd hp => by
  unfold allD at hp
  split at hp
  · rename_i ds
    split at hp
    · rename_i ns en
      obtain ⟨a, xs, rfl, l, z⟩ := hd.list
      have ez := boolsOf_v en z
      subst ez
      exact cr_all hc pins s0 σ0 H _ us Q I r ⟨a, ns, rfl, l.sq, hp.sh hS (Nat.le_refl _) (.bl _)⟩
    · exact hp.elim
  · exact hp.elim
theorem c_any (hc : X.calm = true) : CallS X W (.builtin "any") (g1 anyD) := cs1 fun pins s0 σ0 H v us Q σ w s d I r hS hd hp => by
  unfold anyD at hp
  split at hp
  · rename_i ds
    split at hp
    · rename_i ns en
      obtain ⟨a, xs, rfl, l, z⟩ := hd.list
      have ez := boolsOf_v en z
      subst ez
      exact cr_any hc pins s0 σ0 H _ us Q I r ⟨a, ns, rfl, l.sq, hp.sh hS (Nat.le_refl _) (.bl _)⟩
    · exact hp.elim
  · exact hp.elim
theorem c_list : CallS X W (.type "list") (g1 listD) := cs1 fun pins s0 σ0 H v us Q σ w s d I r hS hd hp => by
  unfold listD at hp
  split at hp
  · rename_i ds
    obtain ⟨a, xs, rfl, l, z⟩ := hd.list
    exact call_list_of pins s0 σ0 H _ us Q I r ⟨a, xs, rfl, .inl l.sq, fun p hn => hp.new hS (Nat.le_refl _) z hn⟩
  · rename_i ds
    obtain ⟨a, xs, rfl, l, z⟩ := hd.tup
    exact call_list_of pins s0 σ0 H _ us Q I r ⟨a, xs, rfl, .inr l, fun p hn => hp.new hS (Nat.le_refl _) z hn⟩
  · exact hp.elim
theorem c_tuple : CallS X W (.type "tuple") (g1 tupleD) := cs1 fun pins s0 σ0 H v us Q σ w s d I r hS hd hp => by
  unfold tupleD at hp
  split at hp
  · rename_i ds
    obtain ⟨a, xs, rfl, l, z⟩ := hd.list
    exact call_tuple_of pins s0 σ0 H _ us Q I r ⟨a, xs, rfl, .inl ⟨l.sq, fun p hn => hp.tup hS (Nat.le_refl _) z hn⟩⟩
  · rename_i ds
    obtain ⟨a, xs, rfl, l, z⟩ := hd.tup
    exact call_tuple_of pins s0 σ0 H _ us Q I r ⟨a, xs, rfl, .inr ⟨l, hp.sh hS (Nat.le_refl _) (.tup l z)⟩⟩
  · exact hp.elim
end
end E
/-! E5: sorted, repr, isinstance; methods of lists. -/
namespace E
open PySem PySem.Spec PyProof.Rows L2

theorem insI_perm (x : Int) : ∀ l : List Int, (insI x l).Perm (x :: l)
  | [] => .refl _
  | y :: r => by
    unfold insI
    split
    · exact .refl _
    · exact ((insI_perm x r).cons y).trans (List.Perm.swap _ _ _)
theorem sortI_perm : ∀ l : List Int, (sortI l).Perm l
  | [] => .refl _
  | x :: r => (insI_perm x (sortI r)).trans ((sortI_perm r).cons x)
theorem insI_sorted (x : Int) : ∀ l : List Int, l.Pairwise (· ≤ ·) → (insI x l).Pairwise (· ≤ ·)
  | [], _ => by simp [insI]
  | y :: r, h => by
    unfold insI
    rw [List.pairwise_cons] at h
    split
    · rename_i hxy
      rw [List.pairwise_cons]
      refine ⟨fun z hz => ?_, List.pairwise_cons.mpr h⟩
      rcases List.mem_cons.mp hz with rfl | hz
      · exact hxy
      · exact Int.le_trans hxy (h.1 z hz)
    · rw [List.pairwise_cons]
      refine ⟨fun z hz => ?_, insI_sorted x r h.2⟩
      rcases List.mem_cons.mp ((insI_perm x r).mem_iff.mp hz) with rfl | hz
      · omega
      · exact h.1 z hz
theorem sortI_sorted : ∀ l : List Int, (sortI l).Pairwise (· ≤ ·)
  | [] => .nil
  | x :: r => insI_sorted x _ (sortI_sorted r)
/-- two sorted lists of the same ints are one -/
theorem sorted_one : ∀ {l m : List Int}, l.Perm m → l.Pairwise (· ≤ ·) → m.Pairwise (· ≤ ·) → l = m
  | [], m, h, _, _ => (List.Perm.nil_eq h)
  | x :: l, [], h, _, _ => absurd h.length_eq (by simp)
  | x :: l, y :: m, h, h1, h2 => by
    rw [List.pairwise_cons] at h1 h2
    have e : x = y := by
      have a1 : y ∈ x :: l := h.mem_iff.mpr List.mem_cons_self
      have a2 : x ∈ y :: m := h.mem_iff.mp List.mem_cons_self
      rcases List.mem_cons.mp a1 with rfl | a1
      · rfl
      · rcases List.mem_cons.mp a2 with rfl | a2
        · rfl
        · have b1 := h1.1 y a1
          have b2 := h2.1 x a2
          omega
    subst e
    rw [sorted_one (List.Perm.cons_inv h) h1.2 h2.2]
section
variable {X : Cx} {W : WX} {e a b c : Expr} {es rest : List Expr} {f f1 f2 f3 : ES} {u u1 u2 : TS'} {t : AS} {g : List R → S → Res R} {pos p : Pos} {K : PySem.W.Frag} {mg : Str → Option Value} {w w' : Wd} {s s' : S} {H H' : Hp} {Z : Addr → Prop} {σ : St} {Q : VK} {x : Str} {id T : String}
theorem c_sorted : CallS X W (.builtin "sorted") (g1 sortD) := cs1 fun pins s0 σ0 H v us Q σ w s d I r hS hd hp => by
  unfold sortD at hp
  split at hp
  · rename_i ds
    split at hp
    · rename_i ns en
      obtain ⟨a, xs, rfl, l, z⟩ := hd.list
      have ez := intsOf_v en z
      subst ez
      refine cr_sortedI pins s0 σ0 H _ us Q I r ⟨a, ns, rfl, l.sq, fun ns' p hperm hsort hn => ?_⟩
      have eq : ns' = sortI ns := sorted_one (hperm.trans (sortI_perm ns).symm) hsort (sortI_sorted ns)
      subst eq
      exact hp.new hS (Nat.le_refl _) (Dens.map_int _) hn
    · exact hp.elim
  · exact hp.elim
theorem c_str : CallS X W (.type "str") (g1 strD) := cs1 fun pins s0 σ0 H v us Q σ w s d I r hS hd hp => by
  unfold strD at hp
  split at hp
  · rename_i i
    split at hp
    · rename_i hz
      have := hd.int
      subst this
      exact call_str_int pins s0 σ0 H _ us Q I r ⟨i, rfl, hz, hp.sh hS (Nat.le_refl _) (.str _)⟩
    · exact hp.elim
  · rename_i z
    have := hd.str
    subst this
    exact SkE.call_str_str pins s0 σ0 H _ us Q I r ⟨z, rfl, hp.sh hS (Nat.le_refl _) (.str _)⟩
  · exact hp.elim
theorem c_divmod : CallS X W (.builtin "divmod") (g2 divmodD) := cs2 fun pins s0 σ0 H v v' us Q σ w s d d' I r hS hd hd' hp => by
  unfold divmodD at hp
  split at hp
  · rename_i i j
    split at hp
    · rename_i hz
      have e1 := hd.int
      have e2 := hd'.int
      subst e1 e2
      exact call_divmod pins s0 σ0 H _ us Q I r ⟨i, j, rfl, hz, fun p hn => hp.tup hS (Nat.le_refl _) (.cons (.int _) (.cons (.int _) .nil)) hn⟩
    · exact hp.elim
  · exact hp.elim
theorem c_repr (hg : X.A.guards = some []) (hu : X.A.units + 64 < cLine) : CallS X W (.builtin "repr") (g1 reprD) := cs1 fun pins s0 σ0 H v us Q σ w s d I r hS hd hp => by
  unfold reprD at hp
  split at hp
  · rename_i hc
    obtain ⟨c1, c2, c3, c4⟩ := hc
    obtain ⟨u, rfl, ru⟩ := vals1 r
    have q := hp.sh hS (Nat.le_refl _) (.str _)
    cases d with
    | none =>
      have := hd.none
      subst this
      cases ru
      exact PySem.P.repr_of_none ⟨.str _, H, I.tok _, ⟨_, rfl⟩, q⟩
    | bool b =>
      have := hd.bool
      subst this
      cases ru
      exact PySem.P.repr_of_bool ⟨.str _, H, I.tok _, ⟨_, rfl⟩, q⟩
    | int i =>
      have := hd.int
      subst this
      have hz : i.natAbs.log2 < 1920 := by simpa [PyData.showable] using c1
      obtain ⟨t, rfl⟩ := ru
      exact PySem.P.repr_of_int hz ⟨.str _, H, I.tok _, ⟨_, rfl⟩, q⟩
    | str z =>
      have := hd.str
      subst this
      obtain ⟨t, rfl⟩ := ru
      exact PySem.P.repr_of_str ⟨.str _, H, I.tok _, ⟨_, rfl⟩, q⟩ c4
    | list ds =>
      obtain ⟨a, xs, rfl, l, z⟩ := hd.list
      cases ru
      obtain ⟨as, hr⟩ := Dp.reads I _ _ _ hd.dp rfl
      exact repr_of_reads' hr c1 (PyData.noDict_hsm c2) hg (by omega) (fun _ _ k => k) (fun h' u tk k => ⟨.str _, H, I.kept k, ⟨_, rfl⟩, q⟩) c4
    | tuple ds =>
      obtain ⟨a, xs, rfl, l, z⟩ := hd.tup
      cases ru
      obtain ⟨as, hr⟩ := Dp.reads I _ _ _ hd.dp rfl
      exact repr_of_reads' hr c1 (PyData.noDict_hsm c2) hg (by omega) (fun _ _ k => k) (fun h' u tk k => ⟨.str _, H, I.kept k, ⟨_, rfl⟩, q⟩) c4
    | dict kv => exact (hd.nodict).elim
  · exact hp.elim
def min3D : D → D → D → S → Res R := fun d e g s => match d, e, g with
  | .int i, .int j, .int k => .ok (.sh (.int (if k < (if j < i then j else i) then k else (if j < i then j else i)))) s
  | _, _, _ => .bad
def g3 (o : D → D → D → S → Res R) : List R → S → Res R := fun rs s => match rs with
  | [r, r', r''] => match s.look r, s.look r', s.look r'' with
    | some d, some d', some d'' => o d d' d'' s
    | _, _, _ => .bad
  | _ => .bad
theorem nuMin_int (i j : Int) : nuMin2 (.int i) (.int j) = some (.int (if j < i then j else i)) := by
  unfold nuMin2 nuLt nuCB
  by_cases h : j < i <;> simp [h]
theorem c_min3 (hc : X.calm = true) : CallS X W (.builtin "min") (g3 min3D) := by
  intro pins s0 σ0 H xs us Q I r ⟨σ, w, s, rs, hS, hr, hp⟩
  unfold g3 at hp
  split at hp
  · rename_i r1 r2 r3
    obtain ⟨v1, v2, v3, rfl, h1, h2, h3⟩ := hr.three
    split at hp
    · rename_i d1 d2 d3 e1 e2 e3
      unfold min3D at hp
      split at hp
      · rename_i i j k
        have q1 := (look_ok hS e1 h1).int
        have q2 := (look_ok hS e2 h2).int
        have q3 := (look_ok hS e3 h3).int
        subst q1 q2 q3
        refine call_min3Nu hc pins s0 σ0 H _ us Q I r ⟨_, _, _, _, rfl, ?_, hp.sh hS (Nat.le_refl _) (.int _)⟩
        unfold nuMin3
        rw [nuMin_int, Option.bind_some, nuMin_int]
      · exact hp.elim
    · exact hp.elim
  · exact hp.elim

/-! ### isinstance -/
inductive Ty' where
  | int | bool | str | list | tuple | dict
def Ty'.nm : Ty' → String
  | .int => "int" | .bool => "bool" | .str => "str" | .list => "list" | .tuple => "tuple" | .dict => "dict"
def isD : Ty' → D → Bool
  | .int, .int _ => true
  | .int, .bool _ => true
  | .bool, .bool _ => true
  | .str, .str _ => true
  | .list, .list _ => true
  | .tuple, .tuple _ => true
  | .dict, .dict _ => true
  | _, _ => false
def isiR (T : Ty') : R → S → Res R := fun r s => match s.look r with
  | some d => .ok (.sh (.bool (isD T d))) s
  | none => .bad
def tyD : D → String
  | .none => "NoneType" | .bool _ => "bool" | .int _ => "int" | .str _ => "str" | .list _ => "list" | .tuple _ => "tuple" | .dict _ => "dict"
theorem lstA_ty (l : LstA K H a' xs') : TyX K H (.ref a') (.type "list") := by
  rcases l with l | ⟨o, l⟩ | ⟨its, n, l, _, _⟩
  · exact .base (.lst l)
  · exact .base (.frz l)
  · exact .kList l rfl
theorem sqT_ty {a' : Addr} {xs' : List V} (l : SqT K H a' xs') : TyX K H (.ref a') (.type "tuple") := by
  rcases l with (l | ⟨o, l⟩) | ⟨o, its, n, l, c, _, _, _⟩
  · exact .base (.tup l)
  · exact .fTuple l
  · exact .kTuple l c
theorem DL.ty {v : V} {d : D} (h : DL K Z H v d) : TyX K H v (.type (tyD d)) := by
  cases d with
  | none => rw [h.none]; exact .base .non
  | bool b => rw [h.bool]; exact .base (.bl b)
  | int i => rw [h.int]; exact .base (.int i)
  | str z => rw [h.str]; exact .base (.str z)
  | list ds => obtain ⟨a, xs, rfl, l, z⟩ := h.list; exact lstA_ty l
  | tuple ds => obtain ⟨a, xs, rfl, l, z⟩ := h.tup; exact sqT_ty l
  | dict kv => exact h.nodict.elim
/-- the classes that are asked for -/
theorem known (K : PySem.W.Frag) (T : Ty') (d : D) : PySem.W.kitOne K (.type (tyD d)) (.type T.nm) = some (isD T d) := by
  refine kit_ty ?_
  cases T <;> cases d <;> (simp only [tyD, Ty'.nm, isD]; decide +kernel)
theorem se_isi {y : Str} {p2 : Pos} {T : Ty'} (hg : Gl X "isinstance") (hm : X.mg "isinstance" = none) (hgy : Gl X y) (hmy : X.mg y = none) (hvy : bootBuiltins y = some (.type T.nm)) (ha : SE X W a f) (hny : y ≠ "__name__" := by decide) (hdb : (y == ("__debug__" : Str)) = false := by decide)
    (he : starEach [a, .Name y p2] X.env = (false, eval a X.env) :: starEach [.Name y p2] X.env := by rfl) (he2 : starEach [.Name y p2] X.env = (false, eval (.Name y p2) X.env) :: starEach [] X.env := by rfl) (hpl : (backTo pos (starEach [.Name y p2] X.env)).any (·.1) = false := by rfl) :
    SE X W (.Call (.Name "isinstance" p) [a, .Name y p2] [] pos) (un1 (isiR T) f) := by
  refine pe_imp (pe_callB call_isi hg hm (by decide +kernel) (pa_cons ha (pa_cons (pe_bltn (v := .ty T.nm) hgy hmy hvy rfl hny hdb) pa_nil he2) he) (by decide) (by decide) he hpl) fun σ H Q ⟨w, s, hS, h⟩ => ?_
  refine ⟨w, s, hS, Post.mono (Post.split h) fun w1 r1 s1 H1 _ _ ⟨hS1, e1, h1⟩ v hv => ?_⟩
  have h1 := h1 s1.ce.length e1.ln
  unfold isiR at h1
  split at h1
  · rename_i d el
    exact ⟨v, .ty T.nm, .type (tyD d), .type T.nm, isD T d, rfl, .ty T.nm, (look_ok hS1 el hv).ty, known _ T d, h1.sh hS1 (Nat.le_refl _) (.bl _)⟩
  · exact h1.elim
end

/-! ### methods -/
def S.isL (s : S) (r : R) : Bool := match s.look r with
  | some (.list _) => true
  | _ => false
def methS (g : R → List R → S → Res R) (f : ES) (t : AS) : ES := fun s => (f s).bind fun r s1 => if s1.isL r = true then (t s1).bind fun rs s2 => g r rs s2 else .bad
def AtM (K : PySem.W.Frag) (mg : Str → Option Value) (W : WX) (g : R → List R → S → Res R) : V → List V → Hp → VK → Prop := fun x xs H Q =>
  ∃ σ w s r rs, StR K w s σ H ∧ RR K w s.ce.length H x r ∧ RRs K w s.ce.length H xs rs ∧ Post K mg W σ s.ce.length w s H (g r rs s) (QV K Q)
def appR : R → List R → S → Res R := fun r rs s => match r, rs with
  | .own c, [q] => match s.frz q with
    | some (d, s1) => match s1.cellAt c with
      | .lv ds => if ds.length < sizeLine then .ok (.sh .none) (s1.put c (.lv (ds ++ [d]))) else .bad
      | _ => .bad
    | none => .bad
  | _, _ => .bad
def extR : R → List R → S → Res R := fun r rs s => match r, rs with
  | .own c, [q] => match s.look q, s.cellAt c with
    | some (.list es), .lv ds => if ds.length + es.length ≤ sizeLine then .ok (.sh .none) (s.put c (.lv (ds ++ es))) else .bad
    | _, _ => .bad
  | _, _ => .bad
def popR : R → List R → S → Res R := fun r rs s => match r, rs with
  | .own c, [] => match s.cellAt c with
    | .lv ds => match ds[ds.length - 1]? with
      | some d => .ok (.sh d) (s.put c (.lv ds.dropLast))
      | none => .bad
    | _ => .bad
  | _, _ => .bad
def popAtR : R → List R → S → Res R := fun r rs s => match r, rs with
  | .own c, [.sh (.int i)] => match s.cellAt c with
    | .lv ds => if 0 ≤ i ∧ i < ds.length ∧ i < 2 ^ 62 then match ds[i.toNat]? with
      | some d => .ok (.sh d) (s.put c (.lv (ds.eraseIdx i.toNat)))
      | none => .bad else .bad
    | _ => .bad
  | _, _ => .bad
section
variable {X : Cx} {W : WX} {e a b c o : Expr} {es rest : List Expr} {f f1 f2 f3 : ES} {u u1 u2 : TS'} {t : AS} {g : R → List R → S → Res R} {pos p apos cpos : Pos} {K : PySem.W.Frag} {mg : Str → Option Value} {w w' : Wd} {s s' : S} {H H' : Hp} {Z : Addr → Prop} {σ : St} {Q : VK} {x name : Str} {id T : String}
theorem isL_ty {r : R} {v : V} (hS : StR K w s σ H) (h : s.isL r = true) (hr : RR K w s.ce.length H v r) : tyV K "list" v H := by
  unfold S.isL at h
  split at h
  · rename_i ds el
    obtain ⟨a, xs, rfl, l, z⟩ := (look_ok hS el hr).list
    exact .inl ⟨rfl, xs, l.sq⟩
  · cases h
theorem meth_at (h : tE K mg W (methS g f t) σ H Q) : tBM K "list" (AtM K mg W g) (tE K mg W f) (tA K mg W t) σ H Q := by
  obtain ⟨w, s, hS, h⟩ := h
  refine ⟨w, s, hS, Post.mono (Post.split h) fun w1 r1 s1 H1 _ _ ⟨hS1, e1, h1⟩ v hv => ?_⟩
  have h1 := h1 s1.ce.length e1.ln
  split at h1
  · rename_i hl
    refine ⟨isL_ty hS1 hl hv, w1, s1, hS1, Post.mono (Post.split h1) fun w2 rs s2 H2 _ _ ⟨hS2, e2, h2⟩ vs hvs => ?_⟩
    exact ⟨σ, w2, s2, r1, rs, hS2, RR.stay hS1 e2 (Nat.le_refl _) hv, hvs, h2 _ e2.ln⟩
  · exact h1.elim
theorem meth_at0 (h : tE K mg W (methS g f nilA) σ H Q) : tBM0 K "list" (AtM K mg W g) (tE K mg W f) σ H Q := by
  obtain ⟨w, s, hS, h⟩ := h
  refine ⟨w, s, hS, Post.mono (Post.split h) fun w1 r1 s1 H1 _ _ ⟨hS1, e1, h1⟩ v hv => ?_⟩
  have h1 := h1 s1.ce.length e1.ln
  split at h1
  · rename_i hl
    exact ⟨isL_ty hS1 hl hv, σ, w1, s1, r1, [], hS1, hv, .nil, h1⟩
  · exact h1.elim
theorem se_meth (slot : Slot "list" name id) (hty : typeOf (.builtin id) = pure (.type "method_descriptor")) (hm : MtR X id (AtM X.K X.mg W g)) (ho : SE X W o f) (ha : SA X W (e :: es) t)
    (hbase : attributeBase o name X.env (eval o X.env) = eval o X.env := by rfl)
    (hfew : ((backTo cpos (starEach (e :: es) X.env)).all (fun x => !x.1) && (backToKw cpos (keywordEach [] X.env)).all (fun x => x.1.isSome) && decide ((e :: es).length + ([] : List Keyword).length + (if ([] : List Keyword).isEmpty then 0 else 1) < 30)) = true := by rfl)
    (hline : (apos.endLine == cpos.line) = true := by rfl) (hs : starEach (e :: es) X.env = (false, eval e X.env) :: starEach es X.env := by rfl) (hplain : (backTo cpos (starEach es X.env)).any (·.1) = false := by rfl) :
    SE X W (.Call (.Attribute o name apos) (e :: es) [] cpos) (methS g f t) :=
  pe_imp (pe_bm PySem.F.plainAttrs_list slot hty hm ho ha hbase hfew hline hs hplain) fun σ H Q h => meth_at h
theorem se_meth0 (slot : Slot "list" name id) (hty : typeOf (.builtin id) = pure (.type "method_descriptor")) (hm : MtR X id (AtM X.K X.mg W g)) (ho : SE X W o f)
    (hbase : attributeBase o name X.env (eval o X.env) = eval o X.env := by rfl) (hline : (apos.endLine == cpos.line) = true := by rfl) : SE X W (.Call (.Attribute o name apos) [] [] cpos) (methS g f nilA) :=
  pe_imp (pe_bm0 PySem.F.plainAttrs_list slot hty hm ho hbase hline) fun σ H Q h => meth_at0 h
/-- a list in a cell is changed, behind a built-in's call -/
theorem Post.wrote {r : R} {c0 : Nat} {ds ds' : List D} {xs : List V} (hp : Post K mg W σ p0 w s H (.ok r (s.put c0 (.lv ds'))) (QV K Q)) (hS : StR K w s σ H) (hp0 : p0 ≤ s.ce.length) (hc : s.ce[c0]? = some (.lv ds)) (hd : Dens K w.Z H xs ds') {v : V}
    (hv : ∀ H', Stay w.Z H w.Z H' → RR K w s.ce.length H' v r) : Q v (upd H (w.ρ c0) (.lst xs)) := by
  obtain ⟨h1, h2⟩ := hS.write hc hd
  refine hp _ _ h1 (h2.mono hp0) v ?_
  rw [put_len]
  exact hv _ (hS.stay h2)
theorem m_append : MtR X "list.append" (AtM X.K X.mg W appR) := by
  intro pins s0 σ0 H x xs v us Q I rx rv ⟨σ, w, s, r, rs, hS, h1, h2, hp⟩
  unfold appR at hp
  split at hp
  · rename_i c q
    obtain ⟨vq, rfl, hq⟩ := h2.one
    split at hp
    · rename_i d s1 ef
      split at hp
      · rename_i ds ec
        split at hp
        · rename_i hz
          obtain ⟨w1, hS1, e1, d1, l1⟩ := frz_ok hS ef hq
          have h1' := RR.stay hS e1 (Nat.le_refl _) h1
          obtain ⟨rfl, hlt⟩ := h1'
          have hc := cellAt_lv ec
          obtain ⟨_, ys, hH, hd⟩ := hS1.cl c _ hc
          refine mt_append pins s0 σ0 H _ _ v us Q I rx rv ⟨w1.ρ c, ys, vq, rfl, rfl, hH, by rw [hd.length]; exact hz, ?_⟩
          have hd' := hd.append (Dens.cons d1 .nil)
          exact (hp.move e1 (Nat.le_refl _)).wrote hS1 (by rw [l1]; exact Nat.le_refl _) hc hd' fun _ _ => .non
        · exact hp.elim
      · exact hp.elim
    · exact hp.elim
  · exact hp.elim
theorem m_extend : MtR X "list.extend" (AtM X.K X.mg W extR) := by
  intro pins s0 σ0 H x xs v us Q I rx rv ⟨σ, w, s, r, rs, hS, h1, h2, hp⟩
  unfold extR at hp
  split at hp
  · rename_i c q
    obtain ⟨vq, rfl, hq⟩ := h2.one
    split at hp
    · rename_i es ds el ec
      split at hp
      · rename_i hz
        obtain ⟨rfl, hlt⟩ := h1
        have hc := cellAt_lv ec
        obtain ⟨_, ys, hH, hd⟩ := hS.cl c _ hc
        obtain ⟨b, zs, rfl, l2, d2⟩ := (look_ok hS el hq).list
        cases rx
        obtain ⟨u, rfl, ru⟩ := vals1 rv
        cases ru
        obtain ⟨z1, its, n, r1, o1⟩ := (show LstA X.K H (w.ρ c) ys from .inl hH).obj I
        obtain ⟨z2, its2, n2, r2, o2⟩ := l2.obj I
        have g1 := hd.length
        have g2 := d2.length
        have k1 := r1.length
        have k2 := r2.length
        have size : its.toArray.size + its2.toArray.size ≤ sizeLine := by
          simp only [List.size_toArray]
          omega
        have long : ¬ (!its.toArray.isEmpty && Builtin.List.listTooLong (its.toArray.size + its2.toArray.size)) = true := by
          rw [notLongL size, Bool.and_false]
          simp
        refine call_meets F.slot_list_extend ⟨_, o1, rfl⟩ F.entry_list_extend (F.args_list_extend_2 _ _) (AutoSeq1.list_extend_list_list_0 (w.ρ c) its.toArray n b its2.toArray n2 long ?_ (by omega)) ⟨o1, o2, ?_⟩
        · simp only [List.size_toArray]
          omega
        · refine ⟨V.non, _, I.lset (its' := its ++ its2) hH o1 (by simp) (r1.append r2) (by rw [List.length_append]; omega), rfl, ?_⟩
          exact hp.wrote hS (Nat.le_refl _) hc (hd.append d2) fun _ _ => .non
      · exact hp.elim
    · exact hp.elim
  · exact hp.elim
theorem Dens.dropLast : ∀ {vs : List V} {ds : List D}, Dens K Z H vs ds → Dens K Z H vs.dropLast ds.dropLast := fun {vs ds} h => by
  rw [List.dropLast_eq_take, List.dropLast_eq_take, h.length]
  exact h.take _
theorem Dens.eraseIdx : ∀ {vs : List V} {ds : List D} (i : Nat), Dens K Z H vs ds → Dens K Z H (vs.eraseIdx i) (ds.eraseIdx i)
  | _, _, _, .nil => .nil
  | _, _, 0, .cons _ t => t
  | _, _, i + 1, .cons h t => .cons h (Dens.eraseIdx i t)
theorem m_pop : MtR X "list.pop" (AtM X.K X.mg W popR) := by
  intro pins s0 σ0 H x xs v us Q I rx rv ⟨σ, w, s, r, rs, hS, h1, h2, hp⟩
  unfold popR at hp
  split at hp
  · rename_i c
    cases h2
    split at hp
    · rename_i ds ec
      split at hp
      · rename_i d ed
        obtain ⟨rfl, hlt⟩ := h1
        have hc := cellAt_lv ec
        obtain ⟨_, ys, hH, hd⟩ := hS.cl c _ hc
        rw [← hd.length] at ed
        obtain ⟨vd, e1, e2⟩ := hd.get ed
        refine mt_pop pins s0 σ0 H _ _ v us Q I rx rv ⟨w.ρ c, ys, vd, rfl, rfl, hH, e1, ?_⟩
        exact hp.wrote hS (Nat.le_refl _) hc hd.dropLast fun _ y => Den.stay y e2
      · exact hp.elim
    · exact hp.elim
  · exact hp.elim
theorem m_popAt : MtR X "list.pop" (AtM X.K X.mg W popAtR) := by
  intro pins s0 σ0 H x xs v us Q I rx rv ⟨σ, w, s, r, rs, hS, h1, h2, hp⟩
  unfold popAtR at hp
  split at hp
  · rename_i c i
    obtain ⟨vq, rfl, hq⟩ := h2.one
    cases (show Den X.K w.Z H vq (.int i) from hq)
    split at hp
    · rename_i ds ec
      split at hp
      · rename_i hi
        split at hp
        · rename_i d ed
          obtain ⟨rfl, hlt⟩ := h1
          have hc := cellAt_lv ec
          obtain ⟨_, ys, hH, hd⟩ := hS.cl c _ hc
          obtain ⟨vd, e1, e2⟩ := hd.get ed
          obtain ⟨i0, i1, i2⟩ := hi
          have hl : i < (ys.length : Int) := by rw [hd.length]; exact i1
          have hs : seqIndex? i ys.length = some i.toNat := PySem.StrLaws.seqIndex_nonneg i0 hl
          refine mt_popAt pins s0 σ0 H _ _ v us Q I rx rv ⟨w.ρ c, ys, i, i.toNat, vd, rfl, rfl, hH, by omega, by omega, hs, e1, ?_⟩
          exact hp.wrote hS (Nat.le_refl _) hc (hd.eraseIdx _) fun _ y => Den.stay y e2
        · exact hp.elim
      · exact hp.elim
    · exact hp.elim
  · exact hp.elim
end
end E
/-! E6: statements. -/
namespace E
open PySem PySem.Spec PyProof.Rows L2

/-- behind a statement -/
def PostS (K : PySem.W.Frag) (mg : Str → Option Value) (W : WX) (p : Nat) (w : Wd) (s : S) (H : Hp) (r : Res Fl) (B : Ends) : Prop :=
  match r with
  | .ok .nx s' => ∀ w' σ' H', StR K w' s' σ' H' → Ext p w s H w' s' H' → B.nx σ' H'
  | .ok .bk s' => ∀ w' σ' H', StR K w' s' σ' H' → Ext p w s H w' s' H' → B.bk σ' H'
  | .ok .ct s' => ∀ w' σ' H', StR K w' s' σ' H' → Ext p w s H w' s' H' → B.ct σ' H'
  | .ok (.rt r) s' => ∀ w' σ' H' v, StR K w' s' σ' H' → Ext p w s H w' s' H' → RR K w' s'.ce.length H' v r → B.rt v H'
  | .exc x s' => ∀ w' σ' H' cls dd, StR K w' s' σ' H' → Ext p w s H w' s' H' → ExR K mg w' H' x cls dd → W cls dd σ' H'
  | .bad => False
def tS (K : PySem.W.Frag) (mg : Str → Option Value) (W : WX) (f : SS) : TS := fun B σ H => ∃ w s, StR K w s σ H ∧ PostS K mg W s.np w s H (f s) B
def SSt (X : Cx) (W : WX) (st : Stmt) (f : SS) : Prop := PS X st (tS X.K X.mg W f)
def SB (X : Cx) (W : WX) (st : List Stmt) (f : SS) : Prop := PSs X st (tS X.K X.mg W f)
section
variable {K : PySem.W.Frag} {mg : Str → Option Value} {W : WX} {w w' w₂ : Wd} {s s' s₂ : S} {H H' H₂ : Hp} {σ : St} {p q : Nat} {B B' : Ends}
theorem PostS.move {r : Res Fl} (h : PostS K mg W p w s H r B) (e : Ext p w s H w' s' H') (hq : p ≤ q) : PostS K mg W q w' s' H' r B := by
  cases r with
  | ok a s2 =>
    cases a with
    | nx => exact fun w2 σ2 H2 h2 e2 => h w2 σ2 H2 h2 (e.trans e2 hq)
    | bk => exact fun w2 σ2 H2 h2 e2 => h w2 σ2 H2 h2 (e.trans e2 hq)
    | ct => exact fun w2 σ2 H2 h2 e2 => h w2 σ2 H2 h2 (e.trans e2 hq)
    | rt r => exact fun w2 σ2 H2 v h2 e2 => h w2 σ2 H2 v h2 (e.trans e2 hq)
  | exc x s2 => exact fun w2 σ2 H2 cls dd h2 e2 => h w2 σ2 H2 cls dd h2 (e.trans e2 hq)
  | bad => exact h
theorem PostS.mono {r : Res Fl} (h : PostS K mg W p w s H r B) (h1 : ∀ σ H, B.nx σ H → B'.nx σ H) (h2 : ∀ v H, B.rt v H → B'.rt v H) (h3 : ∀ σ H, B.bk σ H → B'.bk σ H) (h4 : ∀ σ H, B.ct σ H → B'.ct σ H) : PostS K mg W p w s H r B' := by
  cases r with
  | ok a s2 =>
    cases a with
    | nx => exact fun w2 σ2 H2 g2 e2 => h1 _ _ (h w2 σ2 H2 g2 e2)
    | bk => exact fun w2 σ2 H2 g2 e2 => h3 _ _ (h w2 σ2 H2 g2 e2)
    | ct => exact fun w2 σ2 H2 g2 e2 => h4 _ _ (h w2 σ2 H2 g2 e2)
    | rt r => exact fun w2 σ2 H2 v g2 e2 g3 => h2 _ _ (h w2 σ2 H2 v g2 e2 g3)
  | exc x s2 => exact h
  | bad => exact h
/-- a statement whose first part is an expression -/
theorem PostS.split {α : Type} {r : Res α} {g : α → S → Res Fl} (h : PostS K mg W p w s H (r.bind g) B) (hS : StR K w s σ H) (hp : p ≤ s.ce.length) :
    Post K mg W σ s.ce.length w s H r (fun w1 a s1 H1 => StR K w1 s1 σ H1 ∧ Ext s.ce.length w s H w1 s1 H1 ∧ PostS K mg W p w1 s1 H1 (g a s1) B) := by
  cases r with
  | ok a s1 => exact fun w1 H1 h1 e1 => ⟨h1, e1, PostS.move (p := p) h (e1.mono hp) (Nat.le_refl _)⟩
  | exc x s1 => exact fun w1 H1 cls dd h1 e1 q => h w1 σ H1 cls dd h1 (e1.mono hp) q
  | bad => exact h
theorem StR.np_le (h : StR K w s σ H) : s.np ≤ s.ce.length := by have := h.bs; omega
end

/-! ### the ends of statements: what was only held meanwhile is forgotten -/
def S.base (s : S) : Nat := s.np + s.sl.length
def S.tr (s : S) : S := { s with ce := s.ce.take (s.np + s.sl.length) }
section
variable {K : PySem.W.Frag} {mg : Str → Option Value} {W : WX} {w w' w₂ : Wd} {s s' s₂ : S} {H H' H₂ : Hp} {σ : St} {p q : Nat} {B B' : Ends}
theorem tr_get {i : Nat} {c : Cell} (e : s.tr.ce[i]? = some c) : i < s.base ∧ s.ce[i]? = some c := by
  have e' : (s.ce.take s.base)[i]? = some c := e
  rw [List.getElem?_take] at e'
  split at e'
  · rename_i h; exact ⟨h, e'⟩
  · cases e'
theorem tr_of {i : Nat} {c : Cell} (hi : i < s.base) (e : s.ce[i]? = some c) : s.tr.ce[i]? = some c := by
  show (s.ce.take s.base)[i]? = some c
  rw [List.getElem?_take, if_pos hi]
  exact e
theorem tr_len (h : StR K w s σ H) : s.tr.ce.length = s.base := by
  show (s.ce.take s.base).length = s.base
  rw [List.length_take]
  have := h.bs
  unfold S.base
  omega
theorem StR.tr (h : StR K w s σ H) : StR K w s.tr σ H where
  cl := fun i c e => h.cl i c (tr_get e).2
  inj := fun i j x y e1 e2 => h.inj i j x y (tr_get e1).2 (tr_get e2).2
  sl := fun i r e => by
    obtain ⟨v, e1, e2⟩ := h.sl i r e
    refine ⟨v, e1, ?_⟩
    cases r with
    | sh d => exact e2
    | own c => exact ⟨e2.1, by rw [tr_len h]; exact h.sb i c e⟩
  sn := h.sn
  zt := h.zt
  sb := h.sb
  bs := by rw [tr_len h]; exact Nat.le_refl _
  lb := fun i ds e => h.lb i ds (tr_get e).2
theorem Ext.tr (h : StR K w s σ H) : Ext s.np w s H w s.tr H :=
  ⟨fun _ h => h, fun _ h => .inl h, fun _ _ h _ => h, fun _ ⟨i, ds, e, q⟩ => .inl ⟨i, ds, (tr_get e).2, q⟩, fun _ _ => rfl, by rw [tr_len h]; unfold S.base; omega, fun i ds e => ⟨tr_of (h.lb i ds e) e, rfl⟩, rfl, rfl⟩
end

/-! ### assignment -/
/-- no other place holds cell t -/
def S.loneC (s : S) (i t : Nat) : Bool := (List.range s.sl.length).all fun j => j == i || match s.sl[j]? with
  | some (some (.own c)) => c != t
  | _ => true
def asg0 (i : Nat) (r : R) (s : S) : Res Unit :=
  match r with
  | .sh d => if i < s.sl.length then .ok () { s with sl := s.sl.set i (some (.sh d)) } else .bad
  | .own c =>
    if c < s.base then (if i < s.sl.length then .ok () { s with sl := s.sl.set i (some (.own c)) } else .bad)
    else match s.cellAt c with
      | .lv ds => match s.cellAt (s.np + i) with
        | .lk _ => .bad
        | _ => if i < s.sl.length ∧ s.loneC i (s.np + i) = true then .ok () { s with sl := s.sl.set i (some (.own (s.np + i))), ce := (s.ce.set (s.np + i) (.lv ds)).set c .dead } else .bad
      | .fz ds => if i < s.sl.length then .ok () { s with sl := s.sl.set i (some (.sh (.list ds))) } else .bad
      | _ => .bad
section
variable {K : PySem.W.Frag} {mg : Str → Option Value} {W : WX} {w w' w₂ : Wd} {s s' s₂ : S} {H H' H₂ : Hp} {σ : St} {p q : Nat} {B B' : Ends}
theorem set_sl (h : StR K w s σ H) {i : Nat} {r : R} {v : V} (hr : RR K w s.ce.length H v r) (hb : ∀ c, r = .own c → c < s.np + s.sl.length) : StR K w { s with sl := s.sl.set i (some r) } (σ.set i (some v)) H where
  cl := h.cl
  inj := h.inj
  sl := fun j q e => by
    have e' : (s.sl.set i (some r))[j]? = some (some q) := e
    by_cases hj : i = j
    · subst hj
      by_cases hi : i < s.sl.length
      · rw [List.getElem?_set_self hi] at e'
        cases e'
        exact ⟨v, List.getElem?_set_self (Nat.lt_of_lt_of_le hi h.sn), hr⟩
      · rw [List.getElem?_eq_none (by simpa using hi)] at e'
        cases e'
    · rw [List.getElem?_set_ne hj] at e'
      obtain ⟨u, e1, e2⟩ := h.sl j q e'
      exact ⟨u, by rw [List.getElem?_set_ne hj]; exact e1, e2⟩
  sn := by simp only [List.length_set]; exact h.sn
  zt := h.zt
  sb := fun j c e => by
    have e' : (s.sl.set i (some r))[j]? = some (some (.own c)) := e
    show c < s.np + (s.sl.set i (some r)).length
    rw [List.length_set]
    by_cases hj : i = j
    · subst hj
      by_cases hi : i < s.sl.length
      · rw [List.getElem?_set_self hi] at e'
        exact hb c (Option.some.inj (Option.some.inj e'))
      · rw [List.getElem?_eq_none (by simpa using hi)] at e'
        cases e'
    · rw [List.getElem?_set_ne hj] at e'
      exact h.sb j c e'
  bs := by simp only [List.length_set]; exact h.bs
  lb := fun j ds e => by simp only [List.length_set]; exact h.lb j ds e
theorem ext_sl {sl' : List (Option R)} (hl : sl'.length = s.sl.length) (hp : p ≤ s.ce.length) : Ext p w s H w { s with sl := sl' } H :=
  ⟨fun _ h => h, fun _ h => .inl h, fun _ _ h _ => h, fun _ h => .inl h, fun _ _ => rfl, hp, fun _ _ h => ⟨h, rfl⟩, rfl, hl⟩
theorem asg0_ok (h : StR K w s σ H) {i : Nat} {r : R} {v : V} (hr : RR K w s.ce.length H v r) (e : asg0 i r s = .ok () s') :
    ∃ w', StR K w' s' (σ.set i (some v)) H ∧ Ext s.np w s H w' s' H ∧ (∀ c, c ≠ s.np + i → w'.ρ c = w.ρ c) ∧ s'.ce.length = s.ce.length ∧ (∀ c, s.base ≤ c → r ≠ .own c → s'.ce[c]? = s.ce[c]?) := by
  have hnp := h.np_le
  unfold asg0 at e
  cases r with
  | sh d =>
    simp only at e
    split at e
    · cases e
      exact ⟨w, set_sl h hr (fun c q => by cases q), ext_sl (by simp) hnp, fun _ _ => rfl, rfl, fun _ _ _ => rfl⟩
    · cases e
  | own c =>
    simp only at e
    obtain ⟨rfl, hc⟩ := hr
    split at e
    · rename_i hcb
      split at e
      · cases e
        exact ⟨w, set_sl h ⟨rfl, hc⟩ (fun c' q => by cases q; exact hcb), ext_sl (by simp) hnp, fun _ _ => rfl, rfl, fun _ _ _ => rfl⟩
      · cases e
    · rename_i hcb
      have hcb : ¬ c < s.np + s.sl.length := hcb
      cases ec : s.cellAt c with
      | dead => simp only [ec] at e; cases e
      | lk ds => simp only [ec] at e; cases e
      | fz ds =>
        simp only [ec] at e
        split at e
        · cases e
          obtain ⟨hz, xs, q, z⟩ := h.cl c _ (cellAt_fz ec)
          exact ⟨w, set_sl (r := .sh (.list ds)) h (show Den K w.Z H _ _ from .lst (.inl ⟨hz, q⟩) z) (fun c' q => by cases q), ext_sl (by simp) hnp, fun _ _ => rfl, rfl, fun _ _ _ => rfl⟩
        · cases e
      | lv ds =>
        simp only [ec] at e
        have hcl := cellAt_lv ec
        obtain ⟨hz, xs, hH, hd⟩ := h.cl c _ hcl
        have key : s.cellAt (s.np + i) ≠ .lk [] → (∀ ds', s.cellAt (s.np + i) ≠ .lk ds') → (i < s.sl.length ∧ s.loneC i (s.np + i) = true) → s' = { s with sl := s.sl.set i (some (.own (s.np + i))), ce := (s.ce.set (s.np + i) (.lv ds)).set c .dead } →
            ∃ w', StR K w' s' (σ.set i (some (.ref (w.ρ c)))) H ∧ Ext s.np w s H w' s' H ∧ (∀ c, c ≠ s.np + i → w'.ρ c = w.ρ c) ∧ s'.ce.length = s.ce.length ∧ (∀ c', s.base ≤ c' → R.own c ≠ .own c' → s'.ce[c']? = s.ce[c']?) := by
          intro _ hnl ⟨hi, hlone⟩ es
          subst es
          have htc : s.np + i ≠ c := by omega
          have htl : s.np + i < s.ce.length := by have := h.bs; omega
          have get : ∀ (j : Nat) (x : Cell), ((s.ce.set (s.np + i) (.lv ds)).set c .dead)[j]? = some x → (j = c ∧ x = .dead) ∨ (j = s.np + i ∧ x = .lv ds) ∨ (j ≠ c ∧ j ≠ s.np + i ∧ s.ce[j]? = some x) := fun j x q => by
            by_cases h1 : c = j
            · subst h1
              rw [List.getElem?_set_self (by simpa using hc)] at q
              exact .inl ⟨rfl, (Option.some.inj q).symm⟩
            · rw [List.getElem?_set_ne h1] at q
              by_cases h2 : s.np + i = j
              · subst h2
                rw [List.getElem?_set_self htl] at q
                exact .inr (.inl ⟨rfl, (Option.some.inj q).symm⟩)
              · rw [List.getElem?_set_ne h2] at q
                exact .inr (.inr ⟨Ne.symm h1, Ne.symm h2, q⟩)
          have ρt : ({ w with ρ := fun j => if j = s.np + i then w.ρ c else w.ρ j } : Wd).ρ (s.np + i) = w.ρ c := if_pos rfl
          have ρo : ∀ j, j ≠ s.np + i → ({ w with ρ := fun j => if j = s.np + i then w.ρ c else w.ρ j } : Wd).ρ j = w.ρ j := fun j hj => if_neg hj
          refine ⟨{ w with ρ := fun j => if j = s.np + i then w.ρ c else w.ρ j }, ⟨fun j x q => ?_, fun j k x y q1 q2 o1 o2 q3 => ?_, fun j q e => ?_, by simp only [List.length_set]; exact h.sn, h.zt, fun j c' e => ?_, by simp only [List.length_set]; exact h.bs, fun j ds' e => ?_⟩,
            ⟨fun _ q => q, fun _ q => .inl q, fun _ _ q _ => q, fun b ⟨j, ds', q, eb⟩ => ?_, fun j hj => ρo j (by omega), by simp only [List.length_set]; exact hnp, fun j ds' q => ?_, rfl, by simp⟩, fun c' hc' => ρo c' hc', by simp, fun c' hc' hne => ?_⟩
          · rcases get j x q with ⟨rfl, rfl⟩ | ⟨rfl, rfl⟩ | ⟨h1, h2, q'⟩
            · trivial
            · rw [ρt]; exact ⟨hz, xs, hH, hd⟩
            · rw [ρo j h2]; exact h.cl j x q'
          · rcases get j x q1 with ⟨rfl, rfl⟩ | ⟨rfl, rfl⟩ | ⟨h1, h2, q1'⟩
            · cases o1
            · rcases get k y q2 with ⟨rfl, rfl⟩ | ⟨rfl, rfl⟩ | ⟨h3, h4, q2'⟩
              · cases o2
              · rfl
              · rw [ρt, ρo k h4] at q3
                exact absurd (h.inj k c y _ q2' hcl o2 rfl q3.symm) h3
            · rcases get k y q2 with ⟨rfl, rfl⟩ | ⟨rfl, rfl⟩ | ⟨h3, h4, q2'⟩
              · cases o2
              · rw [ρt, ρo j h2] at q3
                exact absurd (h.inj j c x _ q1' hcl o1 rfl q3) h1
              · rw [ρo j h2, ρo k h4] at q3
                exact h.inj j k x y q1' q2' o1 o2 q3
          · have e' : (s.sl.set i (some (.own (s.np + i))))[j]? = some (some q) := e
            by_cases hj : i = j
            · subst hj
              rw [List.getElem?_set_self hi] at e'
              cases e'
              refine ⟨.ref (w.ρ c), List.getElem?_set_self (Nat.lt_of_lt_of_le hi h.sn), ?_, by simp only [List.length_set]; exact htl⟩
              rw [ρt]
            · rw [List.getElem?_set_ne hj] at e'
              obtain ⟨u, e1, e2⟩ := h.sl j q e'
              refine ⟨u, by rw [List.getElem?_set_ne hj]; exact e1, ?_⟩
              cases q with
              | sh d => exact e2
              | own c' =>
                have hne : c' ≠ s.np + i := by
                  have hjl : j < s.sl.length := (List.getElem?_eq_some_iff.mp e').1
                  have q := List.all_eq_true.mp hlone j (List.mem_range.mpr hjl)
                  rw [e'] at q
                  rcases Bool.or_eq_true_iff.mp q with q | q
                  · exact absurd (beq_iff_eq.mp q).symm hj
                  · simpa using q
                exact ⟨by rw [ρo c' hne]; exact e2.1, by simp only [List.length_set]; exact e2.2⟩
          · have e' : (s.sl.set i (some (.own (s.np + i))))[j]? = some (some (.own c')) := e
            show c' < s.np + (s.sl.set i _).length
            rw [List.length_set]
            by_cases hj : i = j
            · subst hj
              rw [List.getElem?_set_self hi] at e'
              cases e'
              omega
            · rw [List.getElem?_set_ne hj] at e'
              exact h.sb j c' e'
          · show j < s.np + (s.sl.set i _).length
            rw [List.length_set]
            rcases get j _ e with ⟨_, z⟩ | ⟨_, z⟩ | ⟨_, _, q⟩
            · cases z
            · cases z
            · exact h.lb j ds' q
          · rcases get j _ q with ⟨_, z⟩ | ⟨rfl, z⟩ | ⟨h1, h2, q'⟩
            · cases z
            · rw [ρt] at eb
              exact .inl ⟨c, ds, hcl, eb⟩
            · rw [ρo j h2] at eb
              exact .inl ⟨j, ds', q', eb⟩
          · have hj1 : j ≠ c := fun z => by subst z; rw [hcl] at q; cases q
            have hj2 : j ≠ s.np + i := fun z => by
              subst z
              have : s.cellAt (s.np + i) = .lk ds' := by unfold S.cellAt; rw [q]; rfl
              exact hnl ds' this
            exact ⟨by show ((s.ce.set (s.np + i) (.lv ds)).set c .dead)[j]? = _; rw [List.getElem?_set_ne (Ne.symm hj1), List.getElem?_set_ne (Ne.symm hj2)]; exact q, ρo j hj2⟩
          · have h1 : c ≠ c' := fun z => hne (by rw [z])
            have : s.base = s.np + s.sl.length := rfl
            show ((s.ce.set (s.np + i) (.lv ds)).set c .dead)[c']? = _
            rw [List.getElem?_set_ne h1, List.getElem?_set_ne (by omega)]
        cases et : s.cellAt (s.np + i) with
        | lk ds' => simp only [et] at e; cases e
        | dead =>
          simp only [et] at e
          split at e
          · rename_i hc2
            cases e
            exact key (by rw [et]; simp) (fun ds' => by rw [et]; simp) hc2 rfl
          · cases e
        | lv ds' =>
          simp only [et] at e
          split at e
          · rename_i hc2
            cases e
            exact key (by rw [et]; simp) (fun ds' => by rw [et]; simp) hc2 rfl
          · cases e
        | fz ds' =>
          simp only [et] at e
          split at e
          · rename_i hc2
            cases e
            exact key (by rw [et]; simp) (fun ds' => by rw [et]; simp) hc2 rfl
          · cases e
end
end E
/-! E7: the statements' rules. -/
namespace E
open PySem PySem.Spec PyProof.Rows L2

def doneS (s : S) : Res Fl := .ok .nx s.tr
def seqS (f g : SS) : SS := fun s => match f s with
  | .ok .nx s1 => g s1
  | r => r
def skipS : SS := fun s => .ok .nx s
def breakS : SS := fun s => .ok .bk s
def contS : SS := fun s => .ok .ct s
def badS : SS := fun _ => .bad
def exprS (f : ES) : SS := fun s => (f s).bind fun _ s1 => doneS s1
def retS (f : ES) : SS := fun s => (f s).bind fun r s1 => .ok (.rt r) s1
def retN : SS := fun s => .ok (.rt (.sh .none)) s
def setS (i : Nat) (f : ES) : SS := fun s => (f s).bind fun r s1 => (asg0 i r s1).bind fun _ s2 => doneS s2
def ifS (u : TS') (f g : SS) : SS := fun s => (u s).bind fun b s1 => if b = true then f s1.tr else g s1.tr
/-- a value that waits while place i is stored -/
def waits (i : Nat) (s : S) : R → Bool
  | .sh _ => true
  | .own c => c != s.np + i
def par2S (i j : Nat) (t : AS) : SS := fun s => (t s).bind fun rs s1 => match rs with
  | [r, q] => if waits i s1 q = true then (asg0 i r s1).bind fun _ s2 => (asg0 j q s2).bind fun _ s3 => doneS s3 else .bad
  | _ => .bad
def par3S (i j l : Nat) (t : AS) : SS := fun s => (t s).bind fun rs s1 => match rs with
  | [r, q, m] => if waits i s1 q = true ∧ waits i s1 m = true ∧ waits j s1 m = true then (asg0 i r s1).bind fun _ s2 => (asg0 j q s2).bind fun _ s3 => (asg0 l m s3).bind fun _ s4 => doneS s4 else .bad
  | _ => .bad
def setMany : List Nat → List D → S → Option S
  | [], [], s => some s
  | i :: is, d :: ds, s => if i < s.sl.length then setMany is ds { s with sl := s.sl.set i (some (.sh d)) } else none
  | _, _, _ => none
def unpS (is : List Nat) (f : ES) : SS := fun s => (f s).bind fun r s1 => match s1.look r with
  | some (.tuple ds) => match setMany is ds s1 with
    | some s2 => doneS s2
    | none => .bad
  | _ => .bad
def putAt (c : Nat) (ri r : R) (s : S) : Res Fl := match s.look ri with
  | some (.int k) => match s.frz r with
    | some (d, s4) => match s4.cellAt c with
      | .lv ds => match ixN ds.length k with
        | some j => doneS (s4.put c (.lv (ds.set j d)))
        | none => .bad
      | _ => .bad
    | none => .bad
  | _ => .bad
def putIx (ro ri r : R) (s : S) : Res Fl := match ro with
  | .own c => putAt c ri r s
  | _ => .bad
def subS (fo fi f : ES) : SS := fun s => (f s).bind fun r s1 => (fo s1).bind fun ro s2 => (fi s2).bind fun ri s3 => putIx ro ri r s3
def augS (i : Nat) (g : R → R → S → Res R) (f : ES) : SS := fun s => (varS i s).bind fun r0 s0 => (f s0).bind fun r1 s1 => (g r0 r1 s1).bind fun r2 s2 => (asg0 i r2 s2).bind fun _ s3 => doneS s3
section
variable {X : Cx} {W : WX} {e a b c o : Expr} {es rest : List Expr} {st : Stmt} {sts sts2 : List Stmt} {f f1 f2 f3 : ES} {k l : SS} {u u1 u2 : TS'} {t : AS} {g : R → R → S → Res R} {pos p : Pos} {K : PySem.W.Frag} {mg : Str → Option Value} {w w' : Wd} {s s' : S} {H H' : Hp} {Z : Addr → Prop} {σ : St} {Q : VK} {x name : Str} {B : Ends} {q0 : Nat}
theorem pss_imp {t t' : TS} (h : PSs X sts t) (hi : ∀ σ H D, t' D σ H → t D σ H) : PSs X sts t' := ⟨fun pins s σ H D I q => h.run pins s σ H D I (hi σ H D q)⟩
/-- a statement's end -/
theorem done_nx (h : PostS K mg W q0 w s H (doneS s) B) (hS : StR K w s σ H) (hq : q0 ≤ s.np) : B.nx σ H := h w σ H hS.tr ((Ext.tr hS).mono hq)
theorem sb_nil : SB X W [] skipS := pss_imp pss_nil fun σ H B ⟨w, s, hS, h⟩ => h w σ H hS (Ext.refl hS.np_le)
theorem ss_pass : SSt X W (.Pass pos) skipS := ps_imp ps_pass fun σ H B ⟨w, s, hS, h⟩ => h w σ H hS (Ext.refl hS.np_le)
theorem ss_break : SSt X W (.Break pos) breakS := ps_imp ps_break fun σ H B ⟨w, s, hS, h⟩ => h w σ H hS (Ext.refl hS.np_le)
theorem ss_cont : SSt X W (.Continue pos) contS := ps_imp ps_continue fun σ H B ⟨w, s, hS, h⟩ => h w σ H hS (Ext.refl hS.np_le)
theorem ss_never : SSt X W st badS := ps_imp ps_never fun σ H B ⟨w, s, hS, h⟩ => h
theorem sb_one (h : SSt X W st k) : SB X W [st] k := pss_one h
theorem seq_at (h : tS K mg W (seqS k l) B σ H) : tS K mg W k { B with nx := tS K mg W l B } σ H := by
  obtain ⟨w, s, hS, h⟩ := h
  refine ⟨w, s, hS, ?_⟩
  unfold seqS at h
  cases e : k s with
  | ok a s1 =>
    rw [e] at h
    cases a with
    | nx =>
      intro w' σ' H' h1 e1
      exact ⟨w', s1, h1, PostS.move (p := s.np) (q := s1.np) h e1 (Nat.le_of_eq e1.nq.symm)⟩
    | bk => exact h
    | ct => exact h
    | rt r => exact h
  | exc y s1 => rw [e] at h; exact h
  | bad => rw [e] at h; exact h
theorem sb_cons (h1 : SSt X W st k) (h2 : SB X W sts l) : SB X W (st :: sts) (seqS k l) := pss_imp (pss_cons h1 h2) fun σ H B h => seq_at h
theorem ss_expr (he : SE X W e f) (hs : swapsWith e none pos.line X.env = pure false := by rfl) : SSt X W (.Expr e pos) (exprS f) := by
  refine ps_imp (ps_expr he hs) fun σ H B ⟨w, s, hS, h⟩ => ?_
  refine ⟨w, s, hS, Post.mono (PostS.split h hS hS.np_le) fun w1 r1 s1 H1 _ _ ⟨hS1, e1, h1⟩ v hv => ?_⟩
  exact done_nx h1 hS1 (Nat.le_of_eq e1.nq.symm)
theorem ss_ret (he : SE X W e f) : SSt X W (.Return (some e) pos) (retS f) := by
  refine ps_imp (ps_ret he) fun σ H B ⟨w, s, hS, h⟩ => ?_
  refine ⟨w, s, hS, Post.mono (PostS.split h hS hS.np_le) fun w1 r1 s1 H1 _ _ ⟨hS1, e1, h1⟩ v hv => ?_⟩
  exact h1 w1 σ H1 v hS1 (Ext.refl (by rw [← e1.nq]; exact hS1.np_le)) hv
theorem ss_retN : SSt X W (.Return none pos) retN := ps_imp ps_retN fun σ H B ⟨w, s, hS, h⟩ => h w σ H .non hS (Ext.refl hS.np_le) .non
theorem ss_if (hc : ST X W c u) (ha : SB X W sts k) (hb : SB X W sts2 l) : SSt X W (.If c sts sts2 pos) (ifS u k l) := by
  refine ps_imp (ps_if hc ha hb) fun σ H B ⟨w, s, hS, h⟩ => ?_
  refine ⟨w, s, hS, Post.mono (PostS.split h hS hS.np_le) fun w1 b1 s1 H1 _ _ ⟨hS1, e1, h1⟩ => ?_⟩
  have x : Ext s.np w1 s1 H1 w1 s1.tr H1 := (Ext.tr hS1).mono (Nat.le_of_eq e1.nq.symm)
  cases b1 with
  | true => exact ⟨w1, s1.tr, hS1.tr, PostS.move h1 x (Nat.le_of_eq e1.nq.symm)⟩
  | false => exact ⟨w1, s1.tr, hS1.tr, PostS.move h1 x (Nat.le_of_eq e1.nq.symm)⟩
/-- a value is stored in a slot -/
theorem stored {r : R} {i : Nat} {v : V} (h : PostS K mg W q0 w s H ((asg0 i r s).bind fun _ s2 => doneS s2) B) (hS : StR K w s σ H) (hq : q0 ≤ s.np) (hr : RR K w s.ce.length H v r) : B.nx (σ.set i (some v)) H := by
  cases e : asg0 i r s with
  | ok a s2 =>
    rw [e] at h
    obtain ⟨w2, h2, x2, _⟩ := asg0_ok hS hr e
    exact done_nx (PostS.move (p := q0) (q := q0) h (x2.mono hq) (Nat.le_refl _)) h2 (by rw [x2.nq]; exact hq)
  | exc y s1 => unfold asg0 at e; split at e <;> (repeat (split at e <;> try cases e))
  | bad => rw [e] at h; exact h.elim
theorem ss_set {i : Nat} {pos' : Pos} (hN : X.N.Nodup) (hi : X.N[i]? = some x) (hx : Loc X.env.scope x) (he : SE X W e f) (hs : swapsWith e (some (.Name x pos')) pos.line X.env = pure false := by rfl) (hf : X.fn x = true ∨ X.env.scope.names.lookup x = some .local := by first | exact .inl rfl | exact .inr rfl | assumption) :
    SSt X W (.Assign [.Name x pos'] e pos) (setS i f) := by
  refine ps_imp (ps_set hN hi hx he hs hf) fun σ H B ⟨w, s, hS, h⟩ => ?_
  refine ⟨w, s, hS, Post.mono (PostS.split h hS hS.np_le) fun w1 r1 s1 H1 _ _ ⟨hS1, e1, h1⟩ v hv => ?_⟩
  exact stored h1 hS1 (Nat.le_of_eq e1.nq.symm) hv
theorem asg_noexc {i : Nat} {r : R} {y : Ex} {s1 : S} (e : asg0 i r s = .exc y s1) : False := by
  unfold asg0 at e
  split at e <;> (repeat (split at e <;> try cases e))
/-- values wait -/
theorem waited {i : Nat} {r : R} {u : V} (hS : StR K w s σ H) (hr : RR K w s.ce.length H u r) (e : asg0 i r s = .ok () s') :
    ∃ w', StR K w' s' (σ.set i (some u)) H ∧ Ext s.np w s H w' s' H ∧ ∀ (v : V) (m : R), RR K w s.ce.length H v m → waits i s m = true → RR K w' s'.ce.length H v m := by
  obtain ⟨w2, h2, x2, ρ2, l2, _⟩ := asg0_ok hS hr e
  refine ⟨w2, h2, x2, fun v m hm hw => ?_⟩
  cases m with
  | sh d => exact Den.stay (hS.stay x2) hm
  | own c =>
    have hc : c ≠ s.np + i := by simpa [waits] using hw
    exact ⟨by rw [ρ2 c hc]; exact hm.1, by rw [l2]; exact hm.2⟩
theorem par2_at {i j : Nat} (h : tS K mg W (par2S i j t) B σ H) : tPar i j (tA K mg W t) B σ H := by
  obtain ⟨w, s, hS, h⟩ := h
  refine ⟨w, s, hS, Post.mono (PostS.split h hS hS.np_le) fun w1 rs s1 H1 _ _ ⟨hS1, e1, h1⟩ vs hvs => ?_⟩
  split at h1
  · rename_i r m _
    obtain ⟨v, v', rfl, hv, hv'⟩ := hvs.two
    split at h1
    · rename_i hw
      refine ⟨v, v', rfl, ?_⟩
      cases e : asg0 i r s1 with
      | ok a s2 =>
        rw [e] at h1
        obtain ⟨w2, h2, x2, keep⟩ := waited hS1 hv e
        have m2 := keep _ _ hv' hw
        exact stored (PostS.move (p := s.np) (q := s.np) h1 (x2.mono (Nat.le_of_eq e1.nq.symm)) (Nat.le_refl _)) h2 (by rw [x2.nq, e1.nq]; exact Nat.le_refl _) m2
      | exc y s2 => exact (asg_noexc e).elim
      | bad => rw [e] at h1; exact h1.elim
    · exact h1.elim
  · exact h1.elim
theorem ss_par2 {i j : Nat} {y : Str} {px py pt : Pos} {kt k2 : Nat} {pt2 : Pos} (hc : X.calm = true) (hN : X.N.Nodup) (hi : X.N[i]? = some x) (hj : X.N[j]? = some y) (hij : i ≠ j)
    (hx : X.env.scope.names.lookup x = some .local) (hy : X.env.scope.names.lookup y = some .local) (ha : SA X W [a, b] t)
    (hw : swappedStores [.Tuple [.Name x px, .Name y py] kt pt] (.Tuple [a, b] k2 pt2) X.env = pure (some [x, y]))
    (hs : swapsWithSole [.Tuple [.Name x px, .Name y py] kt pt] (.Tuple [a, b] k2 pt2) pos.line X.env = pure false := by rfl) :
    SSt X W (.Assign [.Tuple [.Name x px, .Name y py] kt pt] (.Tuple [a, b] k2 pt2) pos) (par2S i j t) := ps_imp (ps_par hc hN hi hj hij hx hy ha hw hs) fun σ H B h => par2_at h
theorem par3_at {i j l : Nat} (h : tS K mg W (par3S i j l t) B σ H) : tPar3 i j l (tA K mg W t) B σ H := by
  obtain ⟨w, s, hS, h⟩ := h
  refine ⟨w, s, hS, Post.mono (PostS.split h hS hS.np_le) fun w1 rs s1 H1 _ _ ⟨hS1, e1, h1⟩ vs hvs => ?_⟩
  split at h1
  · rename_i r m n _
    obtain ⟨v, v', v'', rfl, hv, hv', hv''⟩ := hvs.three
    split at h1
    · rename_i hw
      obtain ⟨wa, wb, wc⟩ := hw
      refine ⟨v, v', v'', rfl, ?_⟩
      cases e : asg0 i r s1 with
      | ok a s2 =>
        rw [e] at h1
        obtain ⟨w2, h2, x2, keep⟩ := waited hS1 hv e
        have m2 := keep _ _ hv' wa
        have n2 := keep _ _ hv'' wb
        have h1 : PostS K mg W s.np w1 s1 H1 ((asg0 j m s2).bind fun _ s3 => (asg0 l n s3).bind fun _ s4 => doneS s4) B := h1
        have nq : s2.np = s1.np := x2.nq
        have wc' : waits j s2 n = true := by
          cases n with
          | sh d => rfl
          | own c => simpa [waits, nq] using wc
        have h1 := PostS.move (p := s.np) (q := s.np) h1 (x2.mono (Nat.le_of_eq e1.nq.symm)) (Nat.le_refl _)
        cases e' : asg0 j m s2 with
        | ok a s3 =>
          rw [e'] at h1
          obtain ⟨w3, h3, x3, keep'⟩ := waited h2 m2 e'
          have n3 := keep' _ _ n2 wc'
          exact stored (PostS.move (p := s.np) (q := s.np) h1 (x3.mono (by rw [nq, e1.nq]; exact Nat.le_refl _)) (Nat.le_refl _)) h3 (by rw [x3.nq, nq, e1.nq]; exact Nat.le_refl _) n3
        | exc y s2 => exact (asg_noexc e').elim
        | bad => rw [e'] at h1; exact h1.elim
      | exc y s2 => exact (asg_noexc e).elim
      | bad => rw [e] at h1; exact h1.elim
    · exact h1.elim
  · exact h1.elim
theorem ss_par3 {i j l : Nat} {y z : Str} {px py pz pt : Pos} {kt k2 : Nat} {pt2 : Pos} (hc : X.calm = true) (hN : X.N.Nodup) (hi : X.N[i]? = some x) (hj : X.N[j]? = some y) (hl : X.N[l]? = some z) (hij : i ≠ j) (hil : i ≠ l) (hjl : j ≠ l)
    (hx : X.env.scope.names.lookup x = some .local) (hy : X.env.scope.names.lookup y = some .local) (hz : X.env.scope.names.lookup z = some .local) (ha : SA X W [a, b, c] t)
    (hw : swappedStores [.Tuple [.Name x px, .Name y py, .Name z pz] kt pt] (.Tuple [a, b, c] k2 pt2) X.env = pure (some [x, y, z]))
    (hs : swapsWithSole [.Tuple [.Name x px, .Name y py, .Name z pz] kt pt] (.Tuple [a, b, c] k2 pt2) pos.line X.env = pure false := by rfl) :
    SSt X W (.Assign [.Tuple [.Name x px, .Name y py, .Name z pz] kt pt] (.Tuple [a, b, c] k2 pt2) pos) (par3S i j l t) :=
  ps_imp (ps_par3 hc hN hi hj hl hij hil hjl hx hy hz ha hw hs) fun σ H B h => par3_at h

/-! ### targets -/
def gNames : List Nat → TGs
  | [] => gNil
  | i :: is => gCons (gName i) (gNames is)
def setV : List Nat → List V → St → St
  | i :: is, v :: vs, σ => setV is vs (σ.set i (some v))
  | _, _, σ => σ
theorem gNames_at {Q' : St → Hp → Prop} : ∀ {is : List Nat} {vs : List V} {σ : St}, is.length = vs.length → Q' (setV is vs σ) H → gNames is vs σ H Q'
  | [], [], _, _, h => ⟨rfl, h⟩
  | i :: is, v :: vs, σ, hl, h => ⟨v, vs, rfl, gNames_at (is := is) (vs := vs) (by simpa using hl) h⟩
  | [], _ :: _, _, hl, _ => by simp at hl
  | _ :: _, [], _, hl, _ => by simp at hl
theorem setMany_ok : ∀ {is : List Nat} {ds : List D} {vs : List V} {s s' : S} {σ : St}, StR K w s σ H → Dens K w.Z H vs ds → setMany is ds s = some s' →
    StR K w s' (setV is vs σ) H ∧ is.length = vs.length ∧ s'.sl.length = s.sl.length ∧ s'.ce = s.ce ∧ s'.np = s.np
  | [], [], _, s, s', σ, hS, hd, e => by
    cases hd
    have : s = s' := Option.some.inj e
    subst this
    exact ⟨hS, rfl, rfl, rfl, rfl⟩
  | i :: is, d :: ds, _, s, s', σ, hS, hd, e => by
    cases hd with
    | cons h1 h2 =>
      unfold setMany at e
      split at e
      · obtain ⟨q1, q2, q3, q4, q5⟩ := setMany_ok (set_sl (r := .sh d) hS h1 (fun c z => by cases z)) h2 e
        exact ⟨q1, by simp [q2], by rw [q3]; simp, q4, q5⟩
      · cases e
  | [], _ :: _, _, _, _, _, _, _, e => by cases e
  | _ :: _, [], _, _, _, _, _, _, e => by cases e
theorem ext_same (hl : s'.sl.length = s.sl.length) (hc : s'.ce = s.ce) (hn : s'.np = s.np) (hp : q0 ≤ s.ce.length) : Ext q0 w s H w s' H :=
  ⟨fun _ h => h, fun _ h => .inl h, fun _ _ h _ => h, fun _ ⟨i, ds, e, q⟩ => .inl ⟨i, ds, by rw [← hc]; exact e, q⟩, fun _ _ => rfl, by rw [hc]; exact hp, fun _ _ h => ⟨by rw [hc]; exact h, rfl⟩, hn, hl⟩
theorem ss_unp {es : List Expr} {is : List Nat} {k n : Nat} {tp : Pos} (he : SE X W e f) (hg : PG X (.Tuple es k tp) (gTup X.K n (gNames is))) (hn : n = is.length) (hs : swapsWithSole [.Tuple es k tp] e pos.line X.env = pure false := by rfl) (hw : swappedStores [.Tuple es k tp] e X.env = pure none := by rfl)
    (h1 : (assignEach [.Tuple es k tp] X.env).map (·.2) = [assign (.Tuple es k tp) X.env] := by rfl) : SSt X W (.Assign [.Tuple es k tp] e pos) (unpS is f) := by
  refine ps_imp (ps_asg he hg hs hw h1) fun σ H B ⟨w, s, hS, h⟩ => ?_
  refine ⟨w, s, hS, Post.mono (PostS.split h hS hS.np_le) fun w1 r1 s1 H1 _ _ ⟨hS1, e1, h1⟩ v hv => ?_⟩
  split at h1
  · rename_i ds el
    obtain ⟨a0, xs, rfl, l0, d0⟩ := (look_ok hS1 el hv).tup
    split at h1
    · rename_i s2 em
      obtain ⟨q1, q2, q3, q4, q5⟩ := setMany_ok hS1 d0 em
      refine ⟨a0, xs, rfl, l0, by rw [hn, q2], gNames_at q2 ?_⟩
      exact done_nx (PostS.move (p := s.np) (q := s.np) h1 (ext_same q3 q4 q5 (by rw [← e1.nq]; exact hS1.np_le)) (Nat.le_refl _)) q1 (by rw [q5, e1.nq]; exact Nat.le_refl _)
    · exact h1.elim
  · exact h1.elim

/-! ### o[i] = e, x op= e -/
theorem ss_sub {tp : Pos} {i : Expr} {fo fi : ES} (ho : SE X W o fo) (hi : SE X W i fi) (he : SE X W e f)
    (ha : ∀ v, assign (.Subscript o i tp) X.env v = (do
      let ov ← holding [v] (eval o X.env)
      let iv ← holding [v, ov] (eval i X.env)
      standAt tp
      holding [v, ov, iv] (setItem ov iv v)
      release [v, ov, iv] []) := by intro _; rfl)
    (hs : swapsWithSole [.Subscript o i tp] e pos.line X.env = pure false := by rfl) (hw : swappedStores [.Subscript o i tp] e X.env = pure none := by rfl) (h1 : (assignEach [.Subscript o i tp] X.env).map (·.2) = [assign (.Subscript o i tp) X.env] := by rfl) :
    SSt X W (.Assign [.Subscript o i tp] e pos) (subS fo fi f) := by
  refine ps_imp (ps_asg he (pg_sub ho hi set_list ha) hs hw h1) fun σ H B ⟨w, s, hS, h⟩ => ?_
  refine ⟨w, s, hS, Post.mono (PostS.split h hS hS.np_le) fun w1 r1 s1 H1 _ _ ⟨hS1, e1, h1⟩ v hv => ?_⟩
  have le1 : s.np ≤ s1.ce.length := by rw [← e1.nq]; exact hS1.np_le
  refine ⟨w1, s1, hS1, Post.mono (PostS.split h1 hS1 le1) fun w2 r2 s2 H2 _ _ ⟨hS2, e2, h2⟩ vo hvo => ?_⟩
  have le2 : s.np ≤ s2.ce.length := by rw [← e1.nq, ← e2.nq]; exact hS2.np_le
  have hv2 := RR.stay hS1 e2 (Nat.le_refl _) hv
  refine ⟨w2, s2, hS2, Post.mono (PostS.split h2 hS2 le2) fun w3 r3 s3 H3 _ _ ⟨hS3, e3, h3⟩ vi hvi => ?_⟩
  have hv3 := RR.stay hS2 e3 (Nat.le_refl _) hv2
  have hvo3 := RR.stay hS2 e3 (Nat.le_refl _) hvo
  have n3 : s.np = s3.np := by rw [e3.nq, e2.nq, e1.nq]
  cases r2 with
  | sh d => exact h3.elim
  | own c =>
  have h3 : PostS X.K X.mg W s.np w3 s3 H3 (putAt c r3 r1 s3) B := h3
  unfold putAt at h3
  split at h3
  · rename_i k el
    have ei := (look_ok hS3 el hvi).int
    split at h3
    · rename_i d s4 ef
      obtain ⟨w4, hS4, x4, d4, l4⟩ := frz_ok hS3 ef hv3
      have hvo4 := RR.stay hS3 x4 (Nat.le_refl _) hvo3
      split at h3
      · rename_i ds ec
        split at h3
        · rename_i j ej
          obtain ⟨rfl, hlt⟩ := hvo4
          have hc := cellAt_lv ec
          obtain ⟨_, ys, hH, hd⟩ := hS4.cl c _ hc
          refine ⟨w4.ρ c, ys, k, j, rfl, ei, hH, by rw [hd.length]; exact ej, ?_⟩
          obtain ⟨g1, g2⟩ := hS4.write hc (hd.set j d4)
          have h4 := PostS.move (p := s.np) (q := s.np) h3 (x4.mono (by rw [n3]; exact hS3.np_le)) (Nat.le_refl _)
          have n4 : s4.np = s3.np := x4.nq
          exact done_nx (PostS.move (p := s.np) (q := s.np) h4 (g2.mono (by rw [n3, ← n4]; exact hS4.np_le)) (Nat.le_refl _)) g1 (by show s.np ≤ s4.np; omega)
        · exact h3.elim
      · exact h3.elim
    · exact h3.elim
  · exact h3.elim
theorem var_res {i : Nat} {r : R} {s1 : S} (e : varS i s = .ok r s1) : s1 = s ∧ s.sl[i]? = some (some r) := by
  unfold varS at e
  split at e
  · rename_i r' er
    cases e
    exact ⟨rfl, er⟩
  · cases e
theorem ss_aug {i : Nat} {op : Operator} {pos' : Pos} (hN : X.N.Nodup) (hi : X.N[i]? = some x) (hx : Loc X.env.scope x) (he : SE X W e f) (ho : OpS X W (inplaceOp op) g) (hf : X.fn x = true ∨ X.env.scope.names.lookup x = some .local := by first | exact .inl rfl | exact .inr rfl | assumption) :
    SSt X W (.AugAssign (.Name x pos') op e pos) (augS i g f) := by
  refine ps_imp (ps_aug hN hi hx he (show PIp X op (At2 X.K X.mg W g) from ho) hf) fun σ H B ⟨w, s, hS, h⟩ => ?_
  unfold augS at h
  cases ev : varS i s with
  | ok r0 s0 =>
    rw [ev] at h
    obtain ⟨rfl, er⟩ := var_res ev
    obtain ⟨v0, g1, g2⟩ := hS.sl i r0 er
    have h : PostS X.K X.mg W s0.np w s0 H ((f s0).bind fun r1 s1 => (g r0 r1 s1).bind fun r2 s2 => (asg0 i r2 s2).bind fun _ s3 => doneS s3) B := h
    refine ⟨v0, g1, w, s0, hS, Post.mono (PostS.split h hS hS.np_le) fun w1 r1 s1 H1 _ _ ⟨hS1, e1, h1⟩ v hv => ?_⟩
    have le1 : s0.np ≤ s1.ce.length := by rw [← e1.nq]; exact hS1.np_le
    have g3 := RR.stay hS e1 (Nat.le_refl _) g2
    refine ⟨σ, w1, s1, r0, r1, hS1, g3, hv, Post.mono (PostS.split h1 hS1 le1) fun w2 r2 s2 H2 _ _ ⟨hS2, e2, h2⟩ v2 hv2 => ?_⟩
    exact stored h2 hS2 (by rw [e2.nq, e1.nq]; exact Nat.le_refl _) hv2
  | exc y s1 => unfold varS at ev; split at ev <;> cases ev
  | bad => rw [ev] at h; exact h.elim
/-- x += e -/
def extAt (es : List D) (s : S) : R → Res R
  | .own c => match s.cellAt c with
    | .lv ds => if ds.length + es.length ≤ sizeLine then .ok (.own c) (s.put c (.lv (ds ++ es))) else .bad
    | _ => .bad
  | _ => .bad
def iaddR : R → R → S → Res R := fun r1 r2 s => match s.look r1, s.look r2 with
  | some (.int i), some (.int j) => .ok (.sh (.int (i + j))) s
  | some (.str x), some (.str y) => if x.length + y.length ≤ sizeLine then .ok (.sh (.str (x ++ y))) s else .bad
  | some (.list _), some (.list es) => extAt es s r1
  | _, _ => .bad
theorem o_iadd : OpS X W (inplaceOp .Add) iaddR := by
  intro pins s0 σ0 H x y v u Q I rx ry ⟨σ, w, s, r1, r2, hS, h1, h2, hp⟩
  unfold iaddR at hp
  split at hp
  · rename_i i j e1 e2
    exact iop_add pins s0 σ0 H x y v u Q I rx ry ⟨i, j, (look_ok hS e1 h1).int, (look_ok hS e2 h2).int, hp.sh hS (Nat.le_refl _) (.int _)⟩
  · rename_i a b e1 e2
    split at hp
    · rename_i hz
      exact iop_add_str pins s0 σ0 H x y v u Q I rx ry ⟨a, b, (look_ok hS e1 h1).str, (look_ok hS e2 h2).str, hz, hp.sh hS (Nat.le_refl _) (.str _)⟩
    · exact hp.elim
  · rename_i ds0 es e1 e2
    cases r1 with
    | sh d => exact hp.elim
    | own c =>
    unfold extAt at hp
    simp only at hp
    split at hp
    · rename_i ds ec
      split at hp
      · rename_i hz
        obtain ⟨rfl, hlt⟩ := h1
        have hc := cellAt_lv ec
        obtain ⟨_, ys, hH, hd⟩ := hS.cl c _ hc
        obtain ⟨b, zs, rfl, l2, d2⟩ := (look_ok hS e2 h2).list
        cases rx
        cases ry
        obtain ⟨z1, its, n, r1, o1⟩ := (show LstA X.K H (w.ρ c) ys from .inl hH).obj I
        obtain ⟨z2, its2, n2, r2, o2⟩ := l2.obj I
        have g1 := hd.length
        have g2 := d2.length
        have k1 := r1.length
        have k2 := r2.length
        have size : its.toArray.size + its2.toArray.size ≤ sizeLine := by
          simp only [List.size_toArray]
          omega
        have long : ¬ (!its.toArray.isEmpty && Builtin.List.listTooLong (its.toArray.size + its2.toArray.size)) = true := by
          rw [notLongL size, Bool.and_false]
          simp
        refine iadd_road ⟨_, o1, rfl⟩ ⟨_, o2, rfl⟩ (call_meets PySem.F.slot_list_iadd ⟨_, o1, rfl⟩ PySem.F.entry_list_iadd (PySem.F.args_list_iadd_2 _ _)
          (AutoSeq1.list___iadd___list_list_0 (w.ρ c) its.toArray n b its2.toArray n2 long ?_ (by omega)) ⟨o1, o2, ?_⟩)
        · simp only [List.size_toArray]
          omega
        · refine ⟨V.ref (w.ρ c), _, I.lset (its' := its ++ its2) (t' := s0.toks) hH o1 (by simp) (r1.append r2) (by rw [List.length_append]; omega), rfl, ?_⟩
          exact hp.wrote hS (Nat.le_refl _) hc (hd.append d2) fun H' _ => ⟨rfl, hlt⟩
      · exact hp.elim
    · exact hp.elim
  · exact hp.elim
theorem iop_sub'' : OpR X (inplaceOp .Sub) (rI (fun _ _ => True) fun i j => .int (i - j)) := opI fun _ _ _ _ _ _ _ _ q => isub_int q
theorem o_isub : OpS X W (inplaceOp .Sub) subR := ops_int iop_sub''
theorem o_imod : OpS X W (inplaceOp .Mod) modR := ops_int iop_mod
end
end E
/-! E8: what is walked; for, while. -/
namespace E
open PySem PySem.Spec PyProof.Rows L2

abbrev IS := S → Res (List D × List Nat)
/-- the list in a cell is about to be walked -/
def lockI (s0 : S) (c : Nat) (s : S) : Res (List D × List Nat) := match s.cellAt c with
  | .lv ds => if c < s.base then (match s0.cellAt c with
    | .lv _ => .ok (ds, [c]) (s.put c (.lk ds))
    | _ => .bad) else .ok (ds, []) (s.put c (.fz ds))
  | .lk ds => .ok (ds, []) s
  | .fz ds => .ok (ds, []) s
  | .dead => .bad
def lkL (s0 : S) (r : R) (s : S) : Res (List D × List Nat) := match r with
  | .sh (.list ds) => .ok (ds, []) s
  | .own c => lockI s0 c s
  | _ => .bad
def seqI (f : ES) : IS := fun s => (f s).bind fun r s1 => match r with
  | .sh (.tuple ds) => .ok (ds, []) s1
  | r => lkL s r s1
/-- what a walk's record says of the data that it yields -/
structure ItOk (K : PySem.W.Frag) (J : It) (ds : List D) (w0 : Wd) (s0 : S) (H0 : Hp) : Prop where
  go : ∀ (i : Nat) (w : Wd) (s : S) (σ : St) (H : Hp), StR K w s σ H → Ext 0 w0 s0 H0 w s H → i < ds.length → J.go i H
  yld : ∀ (i : Nat) (w : Wd) (s : S) (σ : St) (H : Hp) (x : V) (H' : Hp), StR K w s σ H → Ext 0 w0 s0 H0 w s H → i < ds.length → J.yld i H x H' → ∃ d, ds[i]? = some d ∧ StR K w s σ H' ∧ Ext s.ce.length w s H w s H' ∧ Den K w.Z H' x d
  stop : ∀ (i : Nat) (w : Wd) (s : S) (σ : St) (H : Hp), StR K w s σ H → Ext 0 w0 s0 H0 w s H → ds.length ≤ i → J.stop i H
/-- the cells cs are locked at (w1, s1), and were open at (w0, s0) -/
def Locked (w0 : Wd) (s0 : S) (w1 : Wd) (s1 : S) (cs : List Nat) : Prop := ∀ c ∈ cs, ∃ ds ds' : List D, s0.ce[c]? = some (.lv ds) ∧ s1.ce[c]? = some (.lk ds') ∧ w1.ρ c = w0.ρ c
def tI (K : PySem.W.Frag) (mg : Str → Option Value) (W : WX) (f : IS) : TI := fun σ H R => ∃ w s, StR K w s σ H ∧ Post K mg W σ s.ce.length w s H (f s) (fun w1 q s1 H1 => Locked w s w1 s1 q.2 → ∀ J, ItOk K J q.1 w1 s1 H1 → R J H1)
def SI (X : Cx) (W : WX) (tg e : Expr) (f : IS) : Prop := PI X tg e (tI X.K X.mg W f)
/-- a list at an address that stays as it is -/
def Fix (K : PySem.W.Frag) (a : Addr) (xs : List V) (ds : List D) (w0 : Wd) (s0 : S) (H0 : Hp) : Prop := ∀ (w : Wd) (s : S) (σ : St) (H : Hp), StR K w s σ H → Ext 0 w0 s0 H0 w s H → SqL K H a xs ∧ Dens K w.Z H xs ds
section
variable {K : PySem.W.Frag} {mg : Str → Option Value} {W : WX} {w w' w₂ w0 w1 : Wd} {s s' s₂ s0 s1 : S} {H H' H₂ H0 H1 : Hp} {σ : St} {p q : Nat} {B B' : Ends}
/-- a cell's list is locked -/
theorem StR.lock (h : StR K w s σ H) {c : Nat} {ds : List D} (hc : s.ce[c]? = some (.lv ds)) (hb : c < s.base) : StR K w (s.put c (.lk ds)) σ H ∧ Ext s.ce.length w s H w (s.put c (.lk ds)) H := by
  refine ⟨⟨fun i x e => ?_, fun i j x y e1 e2 o1 o2 e3 => ?_, fun i r e => ?_, h.sn, h.zt, h.sb, by rw [put_len]; exact h.bs, fun i ds' e => ?_⟩, ⟨fun _ q => q, fun _ q => .inl q, fun _ _ q _ => q, fun b ⟨i, ds', e, eb⟩ => ?_, fun _ _ => rfl, by rw [put_len]; exact Nat.le_refl _, fun i ds' e => ⟨put_other (fun z => by subst z; rw [hc] at e; cases e) e, rfl⟩, rfl, rfl⟩⟩
  · rcases put_get e with ⟨rfl, rfl, _⟩ | ⟨hne, e'⟩
    · have z : CellR K w.Z H (w.ρ i) (.lv ds) := h.cl i _ hc
      exact z
    · exact h.cl i x e'
  · have back : ∀ (i : Nat) (x : Cell), (s.put c (.lk ds)).ce[i]? = some x → x.open?.isSome = true → ∃ x', s.ce[i]? = some x' ∧ x'.open?.isSome = true := fun i x e o => by
      rcases put_get e with ⟨rfl, rfl, _⟩ | ⟨hne, e'⟩
      · exact ⟨_, hc, rfl⟩
      · exact ⟨x, e', o⟩
    obtain ⟨x', a1, b1⟩ := back i x e1 o1
    obtain ⟨y', a2, b2⟩ := back j y e2 o2
    exact h.inj i j x' y' a1 a2 b1 b2 e3
  · obtain ⟨v, e1, e2⟩ := h.sl i r e
    refine ⟨v, e1, ?_⟩
    cases r with
    | sh d => exact e2
    | own c' => exact ⟨e2.1, by rw [put_len]; exact e2.2⟩
  · rcases put_get e with ⟨rfl, _, _⟩ | ⟨_, e'⟩
    · exact hb
    · exact h.lb i ds' e'
  · rcases put_get e with ⟨_, z, _⟩ | ⟨_, e'⟩
    · cases z
    · exact .inl ⟨i, ds', e', eb⟩
/-- .. and opened again, seen from where it was open -/
theorem StR.unlock (h : StR K w s σ H) {c : Nat} {ds : List D} (hc : s.ce[c]? = some (.lk ds)) : StR K w (s.put c (.lv ds)) σ H := by
  refine ⟨fun i x e => ?_, fun i j x y e1 e2 o1 o2 e3 => ?_, fun i r e => ?_, h.sn, h.zt, h.sb, by rw [put_len]; exact h.bs, fun i ds' e => ?_⟩
  · rcases put_get e with ⟨rfl, rfl, _⟩ | ⟨hne, e'⟩
    · have z : CellR K w.Z H (w.ρ i) (.lk ds) := h.cl i _ hc
      exact z
    · exact h.cl i x e'
  · have back : ∀ (i : Nat) (x : Cell), (s.put c (.lv ds)).ce[i]? = some x → x.open?.isSome = true → ∃ x', s.ce[i]? = some x' ∧ x'.open?.isSome = true := fun i x e o => by
      rcases put_get e with ⟨rfl, rfl, _⟩ | ⟨hne, e'⟩
      · exact ⟨_, hc, rfl⟩
      · exact ⟨x, e', o⟩
    obtain ⟨x', a1, b1⟩ := back i x e1 o1
    obtain ⟨y', a2, b2⟩ := back j y e2 o2
    exact h.inj i j x' y' a1 a2 b1 b2 e3
  · obtain ⟨v, e1, e2⟩ := h.sl i r e
    refine ⟨v, e1, ?_⟩
    cases r with
    | sh d => exact e2
    | own c' => exact ⟨e2.1, by rw [put_len]; exact e2.2⟩
  · rcases put_get e with ⟨_, z, _⟩ | ⟨_, e'⟩
    · cases z
    · exact h.lb i ds' e'
theorem Ext.unlock (e : Ext p w0 s0 H0 w s H) {c : Nat} {ds ds0 : List D} (hc : s.ce[c]? = some (.lk ds)) (h0 : s0.ce[c]? = some (.lv ds0)) (hρ : w.ρ c = w0.ρ c) : Ext p w0 s0 H0 w (s.put c (.lv ds)) H where
  z := e.z
  zn := e.zn
  k := e.k
  lz := fun a ⟨i, ds', q, ea⟩ => by
    rcases put_get q with ⟨rfl, _, _⟩ | ⟨_, q'⟩
    · exact .inl ⟨i, ds0, h0, hρ.symm.trans ea⟩
    · exact e.lz a ⟨i, ds', q', ea⟩
  pr := e.pr
  ln := by rw [put_len]; exact e.ln
  lk := fun i ds' q => by
    obtain ⟨h1, h2⟩ := e.lk i ds' q
    exact ⟨put_other (fun z => by subst z; rw [h0] at q; cases q) h1, h2⟩
  nq := e.nq
  sq := e.sq
def S.unl (cs : List Nat) (s : S) : S := cs.foldl (fun s c => match s.cellAt c with
  | .lk ds => s.put c (.lv ds)
  | _ => s) s
theorem unl_len : ∀ (cs : List Nat) (s : S), (s.unl cs).ce.length = s.ce.length
  | [], _ => rfl
  | c :: cs, s => by
    show (S.unl cs _).ce.length = _
    rw [unl_len cs]
    show (match s.cellAt c with | .lk ds => s.put c (.lv ds) | _ => s).ce.length = _
    split
    · exact put_len
    · rfl
theorem unl_ok : ∀ {cs : List Nat} {w : Wd} {s : S} {σ : St} {H : Hp}, StR K w s σ H → Ext p w0 s0 H0 w s H → (∀ c ∈ cs, ∃ ds : List D, s0.ce[c]? = some (.lv ds)) → (∀ c ∈ cs, w.ρ c = w0.ρ c) → StR K w (s.unl cs) σ H ∧ Ext p w0 s0 H0 w (s.unl cs) H
  | [], _, _, _, _, hS, e, _, _ => ⟨hS, e⟩
  | c :: cs, w, s, σ, H, hS, e, h0, hρ => by
    have go : ∀ s', StR K w s' σ H → Ext p w0 s0 H0 w s' H → StR K w (S.unl cs s') σ H ∧ Ext p w0 s0 H0 w (S.unl cs s') H := fun s' a b => unl_ok a b (fun c' hc' => h0 c' (List.mem_cons_of_mem _ hc')) fun c' hc' => hρ c' (List.mem_cons_of_mem _ hc')
    show StR K w (S.unl cs (match s.cellAt c with | .lk ds => s.put c (.lv ds) | _ => s)) σ H ∧ _
    cases ec : s.cellAt c with
    | lk ds =>
      obtain ⟨ds0, q0⟩ := h0 c List.mem_cons_self
      have q1 : s.ce[c]? = some (.lk ds) := S.cellAt_some ec (by simp)
      have z := go _ (hS.unlock q1) (e.unlock q1 q0 (hρ c List.mem_cons_self))
      show StR K w (S.unl cs _) σ H ∧ Ext p w0 s0 H0 w (S.unl cs _) H
      exact ⟨z.1, by show Ext p w0 s0 H0 w (S.unl cs (match s.cellAt c with | .lk ds => s.put c (.lv ds) | _ => s)) H; rw [ec]; exact z.2⟩
    | dead =>
      have z := go _ hS e
      exact ⟨z.1, by show Ext p w0 s0 H0 w (S.unl cs (match s.cellAt c with | .lk ds => s.put c (.lv ds) | _ => s)) H; rw [ec]; exact z.2⟩
    | lv ds =>
      have z := go _ hS e
      exact ⟨z.1, by show Ext p w0 s0 H0 w (S.unl cs (match s.cellAt c with | .lk ds => s.put c (.lv ds) | _ => s)) H; rw [ec]; exact z.2⟩
    | fz ds =>
      have z := go _ hS e
      exact ⟨z.1, by show Ext p w0 s0 H0 w (S.unl cs (match s.cellAt c with | .lk ds => s.put c (.lv ds) | _ => s)) H; rw [ec]; exact z.2⟩
theorem Fix.later {a : Addr} {xs : List V} {ds : List D} (F : Fix K a xs ds w0 s0 H0) (e : Ext 0 w0 s0 H0 w1 s1 H1) : Fix K a xs ds w1 s1 H1 := fun w s σ H h e2 => F w s σ H h (e.trans e2 (Nat.le_refl _))
theorem Locked.later {cs : List Nat} (L : Locked w0 s0 w1 s1 cs) (e : Ext 0 w1 s1 H1 w₂ s₂ H₂) : Locked w0 s0 w₂ s₂ cs := fun c hc => by
  obtain ⟨ds, ds', h1, h2, h3⟩ := L c hc
  obtain ⟨h4, h5⟩ := e.lk c ds' h2
  exact ⟨ds, ds', h1, h4, h5.trans h3⟩
theorem fix_sh (hS : StR K w0 s0 σ H0) {a : Addr} {xs : List V} {ds : List D} (l : LstZ K w0.Z H0 a xs) (d : Dens K w0.Z H0 xs ds) : Fix K a xs ds w0 s0 H0 := fun w s σ H h e => ⟨(l.stay (hS.stay e)).sq, d.stay (hS.stay e)⟩
theorem fix_lk (hS : StR K w0 s0 σ H0) {c : Nat} {xs : List V} {ds : List D} (hc : s0.ce[c]? = some (.lk ds)) (l : H0 (w0.ρ c) = some (.lst xs)) (d : Dens K w0.Z H0 xs ds) : Fix K (w0.ρ c) xs ds w0 s0 H0 := fun w s σ H h e => by
  refine ⟨SqL.of (e.k _ _ l fun ⟨i, ds', q, ea⟩ => ?_), d.stay (hS.stay e)⟩
  have := hS.inj i c _ _ q hc rfl rfl ea
  subst this
  rw [hc] at q; cases q
theorem lkL_ok {r : R} {v : V} {ds : List D} {cs : List Nat} (hS : StR K w1 s1 σ H1) (e1 : Ext s0.ce.length w0 s0 H0 w1 s1 H1) (hr : RR K w1 s1.ce.length H1 v r) (h : lkL s0 r s1 = .ok (ds, cs) s₂) :
    ∃ w₂ a xs, v = .ref a ∧ StR K w₂ s₂ σ H1 ∧ Ext s1.ce.length w1 s1 H1 w₂ s₂ H1 ∧ Fix K a xs ds w₂ s₂ H1 ∧ Locked w0 s0 w₂ s₂ cs := by
  cases r with
  | sh d =>
    cases d with
    | list es =>
      cases h
      have hr : Den K w1.Z H1 v (.list ds) := hr
      cases hr with
      | lst l d => exact ⟨w1, _, _, rfl, hS, Ext.refl (Nat.le_refl _), fix_sh hS l d, fun c hc => by cases hc⟩
    | _ => cases h
  | own c =>
    obtain ⟨rfl, hlt⟩ := hr
    have h : lockI s0 c s1 = .ok (ds, cs) s₂ := h
    unfold lockI at h
    cases ec : s1.cellAt c with
    | dead => simp only [ec] at h; cases h
    | lk es =>
      simp only [ec] at h
      cases h
      have q := S.cellAt_some ec (by simp)
      obtain ⟨_, xs, l, d⟩ := hS.cl c _ q
      exact ⟨w1, _, xs, rfl, hS, Ext.refl (Nat.le_refl _), fix_lk hS q l d, fun c hc => by cases hc⟩
    | fz es =>
      simp only [ec] at h
      cases h
      have q := S.cellAt_some ec (by simp)
      obtain ⟨z, xs, l, d⟩ := hS.cl c _ q
      exact ⟨w1, _, xs, rfl, hS, Ext.refl (Nat.le_refl _), fix_sh hS (.inl ⟨z, l⟩) d, fun c hc => by cases hc⟩
    | lv es =>
      simp only [ec] at h
      have q := S.cellAt_some ec (by simp)
      split at h
      · rename_i hb
        cases e0 : s0.cellAt c with
        | lv es0 =>
          simp only [e0] at h
          cases h
          have q0 := S.cellAt_some e0 (by simp)
          obtain ⟨g1, g2⟩ := hS.lock q hb
          have qk : (s1.put c (.lk ds)).ce[c]? = some (.lk ds) := by
            show (s1.ce.set c _)[c]? = _
            rw [List.getElem?_set_self (List.getElem?_eq_some_iff.mp q).1]
          obtain ⟨_, xs, l, d⟩ := g1.cl c _ qk
          refine ⟨w1, _, xs, rfl, g1, g2, fix_lk g1 qk l d, fun c' hc' => ?_⟩
          have : c' = c := by simpa using hc'
          subst this
          exact ⟨es0, ds, q0, qk, e1.pr c' (List.getElem?_eq_some_iff.mp q0).1⟩
        | dead => simp only [e0] at h; cases h
        | lk es0 => simp only [e0] at h; cases h
        | fz es0 => simp only [e0] at h; cases h
      · cases h
        obtain ⟨g1, g2, _⟩ := hS.fix q
        have qk : (s1.put c (.fz ds)).ce[c]? = some (.fz ds) := by
          show (s1.ce.set c _)[c]? = _
          rw [List.getElem?_set_self (List.getElem?_eq_some_iff.mp q).1]
        obtain ⟨z, xs, l, d⟩ := g1.cl c _ qk
        exact ⟨_, _, xs, rfl, g1, g2, fix_sh g1 (.inl ⟨z, l⟩) d, fun c' hc' => by cases hc'⟩
theorem lkL_noexc {r : R} {x : Ex} (h : lkL s0 r s1 = .exc x s₂) : False := by
  cases r with
  | sh d => cases d <;> cases h
  | own c =>
    have h : lockI s0 c s1 = .exc x s₂ := h
    unfold lockI at h
    (repeat (split at h <;> try cases h))
/-- walked as a list -/
theorem it_list {a : Addr} {xs : List V} {ds : List D} (F : Fix K a xs ds w0 s0 H0) : ItOk K (Itl K a) ds w0 s0 H0 where
  go := fun i w s σ H h e hi => by
    obtain ⟨l, d⟩ := F w s σ H h e
    have hx : i < xs.length := by rw [d.length]; exact hi
    exact ⟨xs, xs[i], l, by simp [hx]⟩
  yld := fun i w s σ H x H' h e hi ⟨e1, e2⟩ => by
    obtain ⟨l, d⟩ := F w s σ H h e
    subst e1
    obtain ⟨y, g1, g2⟩ := d.getV (e2 xs l)
    exact ⟨y, g1, h, Ext.refl (Nat.le_refl _), g2⟩
  stop := fun i w s σ H h e hi => by
    obtain ⟨l, d⟩ := F w s σ H h e
    exact ⟨xs, l, by rw [d.length]; exact hi⟩
def enumD : Nat → List D → List D
  | _, [] => []
  | n, d :: r => .tuple [.int n, d] :: enumD (n + 1) r
theorem enumD_len : ∀ (n : Nat) (ds : List D), (enumD n ds).length = ds.length
  | _, [] => rfl
  | n, d :: r => by simp [enumD, enumD_len (n + 1) r]
theorem enumD_get : ∀ (n : Nat) (ds : List D) (i : Nat) (d : D), ds[i]? = some d → (enumD n ds)[i]? = some (.tuple [.int ((n + i : Nat) : Int), d])
  | _, [], _, _, h => by simp at h
  | n, x :: r, 0, d, h => by simp at h; subst h; simp [enumD]
  | n, x :: r, i + 1, d, h => by
    have := enumD_get (n + 1) r i d (by simpa using h)
    simp only [enumD, List.getElem?_cons_succ]
    rw [this]
    congr 5
    omega
theorem it_enum {a : Addr} {xs : List V} {ds : List D} (F : Fix K a xs ds w0 s0 H0) : ItOk K (Ite K a) (enumD 0 ds) w0 s0 H0 where
  go := fun i w s σ H h e hi => by
    obtain ⟨l, d⟩ := F w s σ H h e
    rw [enumD_len] at hi
    have hx : i < xs.length := by rw [d.length]; exact hi
    exact ⟨xs, xs[i], l, by simp [hx]⟩
  yld := fun i w s σ H x H' h e hi ⟨T, y, e0, e1, e2, e3⟩ => by
    obtain ⟨l, d⟩ := F w s σ H h e
    subst e0 e2
    obtain ⟨y', g1, g2⟩ := d.getV (e3 xs l)
    refine ⟨_, enumD_get 0 ds i y' g1, h.lay e1, Ext.lay e1 (Nat.le_refl _), .tup (.inl (.inl upd_same)) (.cons ?_ (.cons (g2.stay (stay_upd e1)) .nil))⟩
    rw [Nat.zero_add]
    exact .int _
  stop := fun i w s σ H h e hi => by
    obtain ⟨l, d⟩ := F w s σ H h e
    rw [enumD_len] at hi
    exact ⟨xs, l, by rw [d.length]; exact hi⟩
def zipD : List D → List D → List D
  | a :: as, b :: bs => .tuple [a, b] :: zipD as bs
  | _, _ => []
theorem zipD_len : ∀ (as bs : List D), (zipD as bs).length = min as.length bs.length
  | [], _ => by simp [zipD]
  | _ :: _, [] => by simp [zipD]
  | a :: as, b :: bs => by simp [zipD, zipD_len as bs]
theorem zipD_get : ∀ (as bs : List D) (i : Nat) (a b : D), as[i]? = some a → bs[i]? = some b → (zipD as bs)[i]? = some (.tuple [a, b])
  | [], _, _, _, _, h, _ => by simp at h
  | _ :: _, [], _, _, _, _, h => by simp at h
  | x :: as, y :: bs, 0, a, b, h, k => by simp at h k; subst h k; rfl
  | x :: as, y :: bs, i + 1, a, b, h, k => by simpa [zipD] using zipD_get as bs i a b (by simpa using h) (by simpa using k)
theorem it_zip {a b : Addr} {xs ys : List V} {ds es : List D} (F : Fix K a xs ds w0 s0 H0) (G : Fix K b ys es w0 s0 H0) : ItOk K (Itz K a b) (zipD ds es) w0 s0 H0 where
  go := fun i w s σ H h e hi => by
    obtain ⟨l, d⟩ := F w s σ H h e
    obtain ⟨l2, d2⟩ := G w s σ H h e
    rw [zipD_len] at hi
    have hx : i < xs.length := by rw [d.length]; omega
    have hy : i < ys.length := by rw [d2.length]; omega
    exact ⟨xs, ys, xs[i], ys[i], l, l2, by simp [hx], by simp [hy]⟩
  yld := fun i w s σ H x H' h e hi ⟨T, y, z, e0, e1, e2, e3, e4⟩ => by
    obtain ⟨l, d⟩ := F w s σ H h e
    obtain ⟨l2, d2⟩ := G w s σ H h e
    subst e0 e2
    obtain ⟨y', g1, g2⟩ := d.getV (e3 xs l)
    obtain ⟨z', g3, g4⟩ := d2.getV (e4 ys l2)
    exact ⟨_, zipD_get ds es i y' z' g1 g3, h.lay e1, Ext.lay e1 (Nat.le_refl _), .tup (.inl (.inl upd_same)) (.cons (g2.stay (stay_upd e1)) (.cons (g4.stay (stay_upd e1)) .nil))⟩
  stop := fun i w s σ H h e hi => by
    obtain ⟨l, d⟩ := F w s σ H h e
    obtain ⟨l2, d2⟩ := G w s σ H h e
    rw [zipD_len] at hi
    exact ⟨xs, ys, l, l2, by rw [d.length, d2.length]; omega⟩
/-- walked as a tuple -/
theorem it_tup (hS : StR K w0 s0 σ H0) {a : Addr} {xs : List V} {ds : List D} (l : SqT K H0 a xs) (d : Dens K w0.Z H0 xs ds) : ItOk K (Itt K a) ds w0 s0 H0 where
  go := fun i w s σ H h e hi => by
    have y := hS.stay e
    have hx : i < xs.length := by rw [d.length]; exact hi
    exact ⟨xs, xs[i], SqT.stay y l, by simp [hx]⟩
  yld := fun i w s σ H x H' h e hi ⟨e1, e2⟩ => by
    have y := hS.stay e
    subst e1
    obtain ⟨z, g1, g2⟩ := (d.stay y).getV (e2 xs (SqT.stay y l))
    exact ⟨z, g1, h, Ext.refl (Nat.le_refl _), g2⟩
  stop := fun i w s σ H h e hi => by
    have y := hS.stay e
    exact ⟨xs, SqT.stay y l, by rw [d.length]; exact hi⟩
/-- lo, lo + c, .. -/
def rngD (lo c : Int) (n : Nat) : List D := (List.range n).map fun i => .int (lo + (i : Nat) * c)
theorem rngD_get {lo c : Int} {n i : Nat} (h : i < n) : (rngD lo c n)[i]? = some (.int (lo + (i : Nat) * c)) := by simp [rngD, h]
theorem it_rng {lo : Int} {n : Nat} : ItOk K (Itr lo n) (rngD lo 1 n) w0 s0 H0 where
  go := fun i w s σ H h e hi => show i < n by simpa [rngD] using hi
  yld := fun i w s σ H x H' h e hi ⟨e1, e2⟩ => by
    subst e1 e2
    have hn : i < n := by simpa [rngD] using hi
    refine ⟨_, rngD_get hn, h, Ext.refl (Nat.le_refl _), ?_⟩
    rw [Int.mul_one]
    exact .int _
  stop := fun i w s σ H h e hi => show n ≤ i by simpa [rngD] using hi
theorem it_rngC {lo c : Int} {n : Nat} : ItOk K (Itc lo c n) (rngD lo c n) w0 s0 H0 where
  go := fun i w s σ H h e hi => show i < n by simpa [rngD] using hi
  yld := fun i w s σ H x H' h e hi ⟨e1, e2⟩ => by
    subst e1 e2
    have hn : i < n := by simpa [rngD] using hi
    exact ⟨_, rngD_get hn, h, Ext.refl (Nat.le_refl _), .int _⟩
  stop := fun i w s σ H h e hi => show n ≤ i by simpa [rngD] using hi
end
end E
/-! E9: iterators' rules; for and while. -/
namespace E
open PySem PySem.Spec PyProof.Rows L2

def enumI (f : AS) : IS := fun s => (f s).bind fun rs s1 => match rs with
  | [r] => (lkL s r s1).bind fun q s2 => .ok (enumD 0 q.1, q.2) s2
  | _ => .bad
def zipI (f : AS) : IS := fun s => (f s).bind fun rs s1 => match rs with
  | [r, m] => (lkL s r s1).bind fun q s2 => (lkL s m s2).bind fun q' s3 => .ok (zipD q.1 q'.1, q.2 ++ q'.2) s3
  | _ => .bad
def small62 (i : Int) : Prop := -(2 ^ 62) ≤ i ∧ i < 2 ^ 62
/-- not to be computed (an Int against 2 ^ 62 would be counted down in the kernel) -/
noncomputable instance (i : Int) : Decidable (small62 i) := Classical.propDecidable _
def S.int (s : S) (r : R) : Option Int := match s.look r with
  | some (.int j) => some j
  | _ => none
def S.ints (s : S) : List R → Option (List Int)
  | [] => some []
  | r :: rs => match s.int r with
    | some i => (s.ints rs).map (i :: ·)
    | none => none
noncomputable def rng1 : List Int → S → Res (List D × List Nat)
  | [j], s1 => if small62 j then .ok (rngD 0 1 j.toNat, []) s1 else .bad
  | _, _ => .bad
noncomputable def rng2 : List Int → S → Res (List D × List Nat)
  | [i, j], s1 => if small62 i ∧ small62 j then .ok (rngD i 1 (j - i).toNat, []) s1 else .bad
  | _, _ => .bad
noncomputable def rng3 : List Int → S → Res (List D × List Nat)
  | [i, j, c], s1 =>
    if c = -1 then (if small62 i ∧ small62 j then .ok (rngD i (-1) (i - j).toNat, []) s1 else .bad)
    else if c ≠ 0 ∧ c.natAbs < 1073741824 ∧ Builtin.Range.small i j c = true ∧ 0 ≤ Builtin.Range.rangeSize i j c then .ok (rngD i c (Builtin.Range.rangeSize i j c).toNat, []) s1 else .bad
  | _, _ => .bad
def rngI (g : List Int → S → Res (List D × List Nat)) (f : AS) : IS := fun s => (f s).bind fun rs s1 => match s1.ints rs with
  | some is => g is s1
  | none => .bad
section
variable {K : PySem.W.Frag} {w : Wd} {s : S} {H : Hp} {σ : St}
theorem int_ok (hS : StR K w s σ H) {r : R} {j : Int} {v : V} (h : s.int r = some j) (hr : RR K w s.ce.length H v r) : v = .int j := by
  unfold S.int at h
  split at h
  · rename_i e
    cases h
    exact (look_ok hS e hr).int
  · cases h
theorem ints_ok (hS : StR K w s σ H) : ∀ {rs : List R} {js : List Int} {vs : List V}, s.ints rs = some js → RRs K w s.ce.length H vs rs → vs = js.map V.int
  | [], _, _, h, hr => by
    cases hr
    have := Option.some.inj h
    subst this
    rfl
  | r :: rs, js, _, h, hr => by
    cases hr with
    | cons h1 h2 =>
      unfold S.ints at h
      split at h
      · rename_i i e
        obtain ⟨ks, e2, rfl⟩ := Option.map_eq_some_iff.mp h
        rw [int_ok hS e h1, ints_ok hS e2 h2]
        rfl
      · cases h
end
section
variable {X : Cx} {W : WX} {tg e a b c : Expr} {f : ES} {fa : AS} {pos p tpos : Pos} {elts : List Expr} {kk : Nat}
theorem si_seq (he : SE X W e f) : SI X W tg e (seqI f) := by
  refine ⟨fun pins s0 σ H R I ⟨w, s, hS, h⟩ => ?_⟩
  have tup : ∀ ds s1, f s = .ok (.sh (.tuple ds)) s1 → iTup X.K (tE X.K X.mg W f) σ H R := fun ds s1 ef => by
    unfold seqI at h
    refine ⟨w, s, hS, ?_⟩
    rw [ef] at h ⊢
    intro w1 H1 hS1 e1 v hv
    cases (show Den X.K w1.Z H1 v (.tuple ds) from hv) with
    | tup l d => exact ⟨_, rfl, ⟨_, l⟩, h w1 H1 hS1 e1 (fun c hc => by cases hc) _ (it_tup hS1 l d)⟩
  have lst : (∀ ds s1, f s ≠ .ok (.sh (.tuple ds)) s1) → iList X.K (tE X.K X.mg W f) σ H R := fun hn => by
    unfold seqI at h
    refine ⟨w, s, hS, ?_⟩
    cases ef : f s with
    | ok r s1 =>
      rw [ef] at h
      intro w1 H1 hS1 e1 v hv
      have h2 : Post X.K X.mg W σ s.ce.length w s H (lkL s r s1) (fun w1 q s1 H1 => Locked w s w1 s1 q.2 → ∀ J, ItOk X.K J q.1 w1 s1 H1 → R J H1) := by
        cases r with
        | own c => exact h
        | sh d =>
          cases d with
          | tuple ds => exact (hn ds s1 ef).elim
          | _ => exact h
      cases el : lkL s r s1 with
      | ok q s2 =>
        obtain ⟨ds, cs⟩ := q
        rw [el] at h2
        obtain ⟨w2, a, xs, rfl, g1, g2, F, L⟩ := lkL_ok hS1 e1 hv el
        refine ⟨a, rfl, ⟨xs, (F w2 s2 σ H1 g1 (Ext.refl (Nat.zero_le _))).1⟩, ?_⟩
        exact h2 w2 H1 g1 (e1.trans g2 e1.ln) L _ (it_list F)
      | exc x s2 => exact (lkL_noexc el).elim
      | bad => rw [el] at h2; exact h2.elim
    | exc x s1 => rw [ef] at h; exact h
    | bad => rw [ef] at h; exact h
  cases ef : f s with
  | ok r s1 =>
    cases r with
    | own c => exact (pi_list he).run pins s0 σ H R I (lst fun ds s2 z => by rw [ef] at z; cases z)
    | sh d =>
      by_cases hd : ∃ ds, d = .tuple ds
      · obtain ⟨ds, rfl⟩ := hd
        exact (pi_tup he).run pins s0 σ H R I (tup ds s1 ef)
      · exact (pi_list he).run pins s0 σ H R I (lst fun ds s2 z => by rw [ef] at z; cases z; exact hd ⟨ds, rfl⟩)
  | exc x s1 => exact (pi_list he).run pins s0 σ H R I (lst fun ds s2 z => by rw [ef] at z; cases z)
  | bad => exact (pi_list he).run pins s0 σ H R I (lst fun ds s2 z => by rw [ef] at z; cases z)
/-- the lists of several values -/
theorem si_enum (hg : Gl X "enumerate") (hm : X.mg "enumerate" = none) (ha : SA X W [e] fa) (hs : starEach [e] X.env = [(false, eval e X.env)] := by rfl) :
    SI X W (.Tuple elts kk tpos) (.Call (.Name "enumerate" p) [e] [] pos) (enumI fa) := by
  refine ⟨fun pins s0 σ H R I ⟨w, s, hS, h⟩ => (pi_enum hg hm ha hs).run pins s0 σ H R I ⟨w, s, hS, ?_⟩⟩
  unfold enumI at h
  refine Post.mono (Post.split h) fun w1 rs s1 H1 _ _ ⟨hS1, e1, h1⟩ vs hvs => ?_
  replace h1 := h1 s.ce.length (Nat.le_refl _)
  rcases rs with _ | ⟨r, _ | ⟨m, rs⟩⟩
  · exact h1.elim
  · obtain ⟨v, rfl, hv⟩ := hvs.one
    dsimp only at h1
    cases el : lkL s r s1 with
    | ok q s2 =>
      obtain ⟨ds, cs⟩ := q
      rw [el] at h1
      obtain ⟨w2, a, xs, rfl, g1, g2, F, L⟩ := lkL_ok hS1 e1 hv el
      refine ⟨a, xs, rfl, (F w2 s2 σ H1 g1 (Ext.refl (Nat.zero_le _))).1, ?_⟩
      exact h1 w2 H1 g1 (g2.mono e1.ln) L _ (it_enum F)
    | exc x s2 => exact (lkL_noexc el).elim
    | bad => rw [el] at h1; exact h1.elim
  · exact h1.elim
theorem si_zip (hg : Gl X "zip") (hm : X.mg "zip" = none) (ha : SA X W [a, b] fa)
    (hs : starEach [a, b] X.env = (false, eval a X.env) :: starEach [b] X.env := by rfl) (hpl : (backTo pos (starEach [b] X.env)).any (·.1) = false := by rfl) :
    SI X W (.Tuple elts kk tpos) (.Call (.Name "zip" p) [a, b] [] pos) (zipI fa) := by
  refine ⟨fun pins s0 σ H R I ⟨w, s, hS, h⟩ => (pi_zip hg hm ha hs hpl).run pins s0 σ H R I ⟨w, s, hS, ?_⟩⟩
  unfold zipI at h
  refine Post.mono (Post.split h) fun w1 rs s1 H1 _ _ ⟨hS1, e1, h1⟩ vs hvs => ?_
  replace h1 := h1 s.ce.length (Nat.le_refl _)
  rcases rs with _ | ⟨r, _ | ⟨m, _ | ⟨n, rs⟩⟩⟩
  · exact h1.elim
  · exact h1.elim
  · obtain ⟨v, v', rfl, hv, hv'⟩ := hvs.two
    dsimp only at h1
    cases el : lkL s r s1 with
    | ok q s2 =>
      obtain ⟨ds, cs⟩ := q
      rw [el] at h1
      obtain ⟨w2, x, xs, rfl, g1, g2, F, L⟩ := lkL_ok hS1 e1 hv el
      have e2 := e1.trans g2 e1.ln
      cases el2 : lkL s m s2 with
      | ok q' s3 =>
        obtain ⟨es, cs'⟩ := q'
        have h1 : Post X.K X.mg W σ s.ce.length w1 s1 H1 ((lkL s m s2).bind fun q' s3 => .ok (zipD ds q'.1, cs ++ q'.2) s3) _ := h1
        rw [el2] at h1
        obtain ⟨w3, y, ys, rfl, g3, g4, G, L'⟩ := lkL_ok g1 e2 (RR.stay hS1 g2 (Nat.le_refl _) hv') el2
        have F3 := F.later (g4.mono (Nat.zero_le _))
        refine ⟨x, y, xs, ys, rfl, (F3 w3 s3 σ H1 g3 (Ext.refl (Nat.zero_le _))).1, (G w3 s3 σ H1 g3 (Ext.refl (Nat.zero_le _))).1, ?_⟩
        refine h1 w3 H1 g3 ((g2.mono e1.ln).trans (g4.mono e2.ln) (Nat.le_refl _)) (fun c hc => ?_) _ (it_zip F3 G)
        rcases List.mem_append.mp hc with hc | hc
        · exact (L.later (g4.mono (Nat.zero_le _))) c hc
        · exact L' c hc
      | exc x s2 => exact (lkL_noexc el2).elim
      | bad =>
        have h1 : Post X.K X.mg W σ s.ce.length w1 s1 H1 ((lkL s m s2).bind fun q' s3 => .ok (zipD ds q'.1, cs ++ q'.2) s3) _ := h1
        rw [el2] at h1
        exact h1.elim
    | exc x s2 => exact (lkL_noexc el).elim
    | bad => rw [el] at h1; exact h1.elim
  · exact h1.elim
theorem rng_at {g : List Int → S → Res (List D × List Nat)} {w : Wd} {s : S} {σ : St} {H : Hp} {R : It → Hp → Prop} {Z : List V → Hp → Prop} (hS : StR X.K w s σ H) (h : Post X.K X.mg W σ s.ce.length w s H (rngI g fa s) (fun w1 q s1 H1 => Locked w s w1 s1 q.2 → ∀ J, ItOk X.K J q.1 w1 s1 H1 → R J H1))
    (hg : ∀ is s1 ds s2, g is s1 = .ok ds s2 → s2 = s1 ∧ ds.2 = []) (hx : ∀ is s1 x s2, g is s1 ≠ .exc x s2)
    (k : ∀ is s1 ds H1, g is s1 = .ok (ds, []) s1 → (∀ J, (∀ w s H, ItOk X.K J ds w s H) → R J H1) → Z (is.map V.int) H1) : tA X.K X.mg W fa σ H Z := by
  unfold rngI at h
  refine ⟨w, s, hS, Post.mono (Post.split h) fun w1 rs s1 H1 _ _ ⟨hS1, e1, h1⟩ vs hvs => ?_⟩
  replace h1 := h1 s.ce.length (Nat.le_refl _)
  cases ei : s1.ints rs with
  | none => rw [ei] at h1; exact h1.elim
  | some is =>
    rw [ei] at h1
    have h1 : Post X.K X.mg W σ s.ce.length w1 s1 H1 (g is s1) _ := h1
    rw [ints_ok hS1 ei hvs]
    cases eg : g is s1 with
    | bad => rw [eg] at h1; exact h1.elim
    | exc x s2 => exact (hx _ _ _ _ eg).elim
    | ok q s2 =>
      obtain ⟨ds, cs⟩ := q
      obtain ⟨rfl, e⟩ := hg _ _ _ _ eg
      have e : cs = [] := e
      subst e
      rw [eg] at h1
      exact k is _ ds H1 eg fun J hJ => h1 w1 H1 hS1 (Ext.refl e1.ln) (fun c hc => by cases hc) J (hJ _ _ _)
theorem rng1_ok {is : List Int} {s1 s2 : S} {ds : List D × List Nat} (h : rng1 is s1 = .ok ds s2) : ∃ j, is = [j] ∧ small62 j ∧ ds = (rngD 0 1 j.toNat, []) ∧ s2 = s1 := by
  unfold rng1 at h
  split at h
  · split at h
    · rename_i hj
      cases h
      exact ⟨_, rfl, hj, rfl, rfl⟩
    · cases h
  · cases h
theorem rng2_ok {is : List Int} {s1 s2 : S} {ds : List D × List Nat} (h : rng2 is s1 = .ok ds s2) : ∃ i j, is = [i, j] ∧ small62 i ∧ small62 j ∧ ds = (rngD i 1 (j - i).toNat, []) ∧ s2 = s1 := by
  unfold rng2 at h
  split at h
  · split at h
    · rename_i hj
      cases h
      exact ⟨_, _, rfl, hj.1, hj.2, rfl, rfl⟩
    · cases h
  · cases h
theorem rng3_ok {is : List Int} {s1 s2 : S} {ds : List D × List Nat} (h : rng3 is s1 = .ok ds s2) : ∃ i j c n, is = [i, j, c] ∧ RgC i j c n ∧ ds = (rngD i c n, []) ∧ s2 = s1 := by
  unfold rng3 at h
  split at h
  · split at h
    · rename_i hk
      split at h
      · rename_i hj
        cases h
        subst hk
        exact ⟨_, _, _, _, rfl, RgC.neg hj.1.1 hj.1.2 hj.2.1 hj.2.2, rfl, rfl⟩
      · cases h
    · split at h
      · rename_i hj
        cases h
        exact ⟨_, _, _, _, rfl, ⟨hj.1, hj.2.1, hj.2.2.1, (Int.toNat_of_nonneg hj.2.2.2).symm⟩, rfl, rfl⟩
      · cases h
  · cases h
theorem si_rng1 (hg : Gl X "range") (hm : X.mg "range" = none) (ha : SA X W [a] fa) (hs : starEach [a] X.env = [(false, eval a X.env)] := by rfl) : SI X W tg (.Call (.Name "range" p) [a] [] pos) (rngI rng1 fa) := by
  refine ⟨fun pins s0 σ H R I ⟨w, s, hS, h⟩ => (pi_range1 hg hm ha hs).run pins s0 σ H R I (rng_at hS h (fun is s1 ds s2 e => ?_) (fun is s1 x s2 e => ?_) fun is s1 ds H1 e k => ?_)⟩
  · obtain ⟨_, _, _, rfl, e2⟩ := rng1_ok e; exact ⟨e2, rfl⟩
  · unfold rng1 at e; (repeat (split at e <;> try cases e))
  · obtain ⟨j, rfl, hj, e2, _⟩ := rng1_ok e
    cases e2
    exact ⟨j, rfl, hj.1, hj.2, k _ fun _ _ _ => it_rng⟩
theorem si_rng2 (hg : Gl X "range") (hm : X.mg "range" = none) (ha : SA X W [a, b] fa) (hs : starEach [a, b] X.env = [(false, eval a X.env), (false, eval b X.env)] := by rfl) (hs2 : starEach [b] X.env = [(false, eval b X.env)] := by rfl) :
    SI X W tg (.Call (.Name "range" p) [a, b] [] pos) (rngI rng2 fa) := by
  refine ⟨fun pins s0 σ H R I ⟨w, s, hS, h⟩ => (pi_range2 hg hm ha hs hs2).run pins s0 σ H R I (rng_at hS h (fun is s1 ds s2 e => ?_) (fun is s1 x s2 e => ?_) fun is s1 ds H1 e k => ?_)⟩
  · obtain ⟨_, _, _, _, _, rfl, e2⟩ := rng2_ok e; exact ⟨e2, rfl⟩
  · unfold rng2 at e; (repeat (split at e <;> try cases e))
  · obtain ⟨i, j, rfl, hi, hj, e2, _⟩ := rng2_ok e
    cases e2
    exact ⟨i, j, rfl, ⟨hi.1, hi.2, hj.1, hj.2⟩, k _ fun _ _ _ => it_rng⟩
theorem si_rng3 (hg : Gl X "range") (hm : X.mg "range" = none) (ha : SA X W [a, b, c] fa)
    (hs : starEach [a, b, c] X.env = (false, eval a X.env) :: starEach [b, c] X.env := by rfl) (hpl : (backTo pos (starEach [b, c] X.env)).any (·.1) = false := by rfl) :
    SI X W tg (.Call (.Name "range" p) [a, b, c] [] pos) (rngI rng3 fa) := by
  refine ⟨fun pins s0 σ H R I ⟨w, s, hS, h⟩ => (pi_range3 hg hm ha hs hpl).run pins s0 σ H R I (rng_at hS h (fun is s1 ds s2 e => ?_) (fun is s1 x s2 e => ?_) fun is s1 ds H1 e k => ?_)⟩
  · obtain ⟨_, _, _, _, _, _, rfl, e2⟩ := rng3_ok e; exact ⟨e2, rfl⟩
  · unfold rng3 at e; (repeat (split at e <;> try cases e))
  · obtain ⟨i, j, c, n, rfl, hr, e2, _⟩ := rng3_ok e
    cases e2
    exact ⟨i, j, c, n, rfl, hr, k _ fun _ _ _ => it_rngC⟩
end
end E
/-! E10: targets; for and while. -/
namespace E
open PySem PySem.Spec PyProof.Rows L2

/-- a loop's target -/
inductive Tg where
  | nm (i : Nat)
  | tp (ts : List Tg)
mutual
def gT (K : PySem.W.Frag) : Tg → TG
  | .nm i => gName i
  | .tp ts => gTup K ts.length (gTs K ts)
def gTs (K : PySem.W.Frag) : List Tg → TGs
  | [] => gNil
  | t :: ts => gCons (gT K t) (gTs K ts)
end
mutual
def setT : Tg → D → S → Option S
  | .nm i, d, s => if i < s.sl.length then some { s with sl := s.sl.set i (some (.sh d)) } else none
  | .tp ts, .tuple ds, s => setTs ts ds s
  | _, _, _ => none
def setTs : List Tg → List D → S → Option S
  | [], [], s => some s
  | t :: ts, d :: ds, s => match setT t d s with
    | some s1 => setTs ts ds s1
    | none => none
  | _, _, _ => none
end
mutual
def Tg.slots : Tg → List Nat
  | .nm i => [i]
  | .tp ts => Tg.slotss ts
def Tg.slotss : List Tg → List Nat
  | [] => []
  | t :: ts => Tg.slots t ++ Tg.slotss ts
end
theorem wipe_get : ∀ {vs : List Nat} {σ : St} {j : Nat}, (wipe σ vs)[j]? = if j ∈ vs ∧ j < σ.length then some none else σ[j]?
  | [], σ, j => by simp [wipe]
  | v :: vs, σ, j => by
    unfold wipe
    by_cases hv : v = j
    · subst hv
      by_cases hl : v < σ.length
      · rw [List.getElem?_set_self (by rw [wipe_length]; exact hl), if_pos ⟨List.mem_cons_self, hl⟩]
      · rw [List.getElem?_eq_none (by rw [List.length_set, wipe_length]; omega), if_neg (fun z => hl z.2), List.getElem?_eq_none (by omega)]
    · rw [List.getElem?_set_ne hv, wipe_get]
      have : (j ∈ v :: vs) ↔ j ∈ vs := by simp [Ne.symm hv]
      simp only [this]
theorem wipe_eq {vs : List Nat} {σ σ' : St} (hl : σ'.length = σ.length) (h : ∀ j, j ∉ vs → σ'[j]? = σ[j]?) : wipe σ' vs = wipe σ vs := by
  apply List.ext_getElem?
  intro j
  rw [wipe_get, wipe_get, hl]
  by_cases hj : j ∈ vs
  · by_cases hlt : j < σ.length
    · rw [if_pos ⟨hj, hlt⟩, if_pos ⟨hj, hlt⟩]
    · rw [if_neg (fun z => hlt z.2), if_neg (fun z => hlt z.2), List.getElem?_eq_none (by omega), List.getElem?_eq_none (by omega)]
  · rw [if_neg (fun z => hj z.1), if_neg (fun z => hj z.1)]
    exact h j hj
/-- a slot is forgotten -/
def S.forget (s : S) (i : Nat) : S := { s with sl := s.sl.set i none, ce := match s.cellAt (s.np + i) with
  | .lk _ => s.ce
  | _ => s.ce.set (s.np + i) .dead }
def S.clean (dr : List Nat) (s : S) : S := dr.foldl S.forget s.tr
section
variable {K : PySem.W.Frag} {mg : Str → Option Value} {W : WX} {w w' w₂ : Wd} {s s' s₂ : S} {H H' H₂ : Hp} {σ : St} {p q : Nat}
theorem setTs_len : ∀ {ts : List Tg} {ds : List D} {s s' : S}, setTs ts ds s = some s' → ts.length = ds.length
  | [], [], _, _, _ => rfl
  | t :: ts, d :: ds, s, s', h => by
    unfold setTs at h
    split at h
    · simp [setTs_len h]
    · cases h
  | [], _ :: _, _, _, h => by unfold setTs at h; cases h
  | _ :: _, [], _, _, h => by unfold setTs at h; cases h
mutual
theorem setT_ok : ∀ {t : Tg} {d : D} {v : V} {s s' : S} {σ : St} {Q : St → Hp → Prop}, StR K w s σ H → Den K w.Z H v d → setT t d s = some s' → s.np ≤ s.ce.length →
    (∀ σ', StR K w s' σ' H → (σ'.length = σ.length ∧ ∀ j, j ∉ t.slots → σ'[j]? = σ[j]?) → s'.ce = s.ce ∧ s'.np = s.np ∧ s'.sl.length = s.sl.length → Q σ' H) → gT K t v σ H Q
  | .nm i, d, v, s, s', σ, Q, hS, hd, e, hn, k => by
    unfold setT at e
    split at e
    · cases e
      show Q _ _
      exact k _ (set_sl (r := .sh d) hS hd (fun c z => by cases z)) ⟨by simp, fun j hj => List.getElem?_set_ne (fun z => hj (by simp [Tg.slots, z]))⟩ ⟨rfl, rfl, by simp⟩
    · cases e
  | .tp ts, d, v, s, s', σ, Q, hS, hd, e, hn, k => by
    cases d with
    | tuple ds =>
      unfold setT at e
      cases hd with
      | tup l h =>
        show gTup K ts.length (gTs K ts) _ _ _ _
        exact ⟨_, _, rfl, l, by rw [h.length]; exact (setTs_len e).symm, setTs_ok hS h e hn fun σ' a b c => k σ' a (by simpa [Tg.slots] using b) c⟩
    | _ => unfold setT at e; cases e
theorem setTs_ok : ∀ {ts : List Tg} {ds : List D} {vs : List V} {s s' : S} {σ : St} {Q : St → Hp → Prop}, StR K w s σ H → Dens K w.Z H vs ds → setTs ts ds s = some s' → s.np ≤ s.ce.length →
    (∀ σ', StR K w s' σ' H → (σ'.length = σ.length ∧ ∀ j, j ∉ Tg.slotss ts → σ'[j]? = σ[j]?) → s'.ce = s.ce ∧ s'.np = s.np ∧ s'.sl.length = s.sl.length → Q σ' H) → gTs K ts vs σ H Q
  | [], [], vs, s, s', σ, Q, hS, hd, e, hn, k => by
    unfold setTs at e
    cases e
    cases hd
    exact ⟨rfl, k _ hS ⟨rfl, fun _ _ => rfl⟩ ⟨rfl, rfl, rfl⟩⟩
  | t :: ts, d :: ds, vs, s, s', σ, Q, hS, hd, e, hn, k => by
    unfold setTs at e
    cases e1 : setT t d s with
    | none => rw [e1] at e; cases e
    | some s1 =>
      rw [e1] at e
      cases hd with
      | cons h1 h2 =>
        refine ⟨_, _, rfl, setT_ok hS h1 e1 hn fun σ1 hS1 l1 ⟨a, b, c⟩ => ?_⟩
        exact setTs_ok hS1 h2 e (by rw [a, b]; exact hn) fun σ2 hS2 l2 ⟨a', b', c'⟩ => k σ2 hS2 ⟨l2.1.trans l1.1, fun j hj => (l2.2 j (fun z => hj (by simp [Tg.slotss, z]))).trans (l1.2 j (fun z => hj (by simp [Tg.slotss, z])))⟩ ⟨a'.trans a, b'.trans b, c'.trans c⟩
  | [], _ :: _, _, _, _, _, _, _, _, e, _, _ => by unfold setTs at e; cases e
  | _ :: _, [], _, _, _, _, _, _, _, e, _, _ => by unfold setTs at e; cases e
end
theorem forget_ce {i j : Nat} {x : Cell} (e : (s.forget i).ce[j]? = some x) : x = .dead ∨ s.ce[j]? = some x := by
  unfold S.forget at e
  dsimp only at e
  split at e
  · exact .inr e
  · by_cases hj : s.np + i = j
    · subst hj
      by_cases hi : s.np + i < s.ce.length
      · rw [List.getElem?_set_self hi] at e
        exact .inl (Option.some.inj e).symm
      · rw [List.getElem?_eq_none (by simpa using hi)] at e; cases e
    · rw [List.getElem?_set_ne hj] at e
      exact .inr e
theorem forget_len {i : Nat} : (s.forget i).ce.length = s.ce.length := by
  unfold S.forget
  dsimp only
  split
  · rfl
  · simp
theorem forget_ok (h : StR K w s σ H) (i : Nat) : StR K w (s.forget i) σ H ∧ Ext s.np w s H w (s.forget i) H := by
  have lsl : (s.forget i).sl.length = s.sl.length := by show (s.sl.set i none).length = _; simp
  have gsl : ∀ (j : Nat) (r : R), (s.forget i).sl[j]? = some (some r) → s.sl[j]? = some (some r) := fun j r e => by
    have e : (s.sl.set i none)[j]? = some (some r) := e
    by_cases hj : i = j
    · subst hj
      by_cases hi : i < s.sl.length
      · rw [List.getElem?_set_self hi] at e; cases e
      · rw [List.getElem?_eq_none (by simpa using hi)] at e; cases e
    · rw [List.getElem?_set_ne hj] at e; exact e
  have op : ∀ (j : Nat) (x : Cell), (s.forget i).ce[j]? = some x → x ≠ .dead → s.ce[j]? = some x := fun j x e hx => (forget_ce e).resolve_left hx
  refine ⟨⟨fun j x e => ?_, fun j k x y e1 e2 o1 o2 e3 => h.inj j k x y (op j x e1 (fun z => by subst z; cases o1)) (op k y e2 (fun z => by subst z; cases o2)) o1 o2 e3, fun j r e => ?_, by rw [lsl]; exact h.sn, h.zt, fun j c e => by rw [lsl]; exact h.sb j c (gsl j _ e), by rw [lsl, forget_len]; exact h.bs, fun j ds e => by rw [lsl]; exact h.lb j ds (op j _ e (by simp))⟩,
    ⟨fun _ q => q, fun _ q => .inl q, fun _ _ q _ => q, fun b ⟨j, ds, e, eb⟩ => .inl ⟨j, ds, op j _ e (by simp), eb⟩, fun _ _ => rfl, by rw [forget_len]; exact h.np_le, fun j ds e => ⟨?_, rfl⟩, rfl, lsl⟩⟩
  · rcases forget_ce e with rfl | e'
    · trivial
    · exact h.cl j x e'
  · obtain ⟨v, e1, e2⟩ := h.sl j r (gsl j r e)
    refine ⟨v, e1, ?_⟩
    cases r with
    | sh d => exact e2
    | own c => exact ⟨e2.1, by rw [forget_len]; exact e2.2⟩
  · unfold S.forget
    dsimp only
    cases ec : s.cellAt (s.np + i) with
    | lk es => exact e
    | _ =>
      show (s.ce.set (s.np + i) .dead)[j]? = _
      rw [List.getElem?_set_ne (fun z => by subst z; unfold S.cellAt at ec; rw [e] at ec; cases ec)]
      exact e
theorem clean_go : ∀ {dr : List Nat} {s : S}, StR K w s σ H → StR K w (dr.foldl S.forget s) σ H ∧ Ext s.np w s H w (dr.foldl S.forget s) H
  | [], s, h => ⟨h, Ext.refl h.np_le⟩
  | i :: dr, s, h => by
    obtain ⟨h1, e1⟩ := forget_ok h i
    obtain ⟨h2, e2⟩ := clean_go (dr := dr) h1
    exact ⟨h2, e1.trans e2 (Nat.le_of_eq e1.nq.symm)⟩
theorem clean_ok (h : StR K w s σ H) (dr : List Nat) : StR K w (s.clean dr) σ H ∧ Ext s.np w s H w (s.clean dr) H := by
  obtain ⟨h2, e2⟩ := clean_go (dr := dr) h.tr
  exact ⟨h2, (Ext.tr h).trans e2 (Nat.le_refl _)⟩
end

/-! ### for -/
def loopS (g : Tg) (dr : List Nat) (body : SS) (cs : List Nat) : List D → SS
  | [], s => doneS (s.unl cs)
  | d :: ds, s => match setT g d s with
    | none => .bad
    | some s1 => match body s1 with
      | .ok .nx s2 => loopS g dr body cs ds (s2.clean dr)
      | .ok .ct s2 => loopS g dr body cs ds (s2.clean dr)
      | .ok .bk s2 => doneS ((s2.clean dr).unl cs)
      | .ok (.rt r) s2 => .ok (.rt r) s2
      | .exc x s2 => .exc x (s2.unl cs)
      | .bad => .bad
def forS (it : IS) (g : Tg) (dr : List Nat) (body : SS) : SS := fun s => (it s).bind fun q s1 => loopS g dr body q.2 q.1 (s1.clean dr)
section
variable {X : Cx} {W : WX} {K : PySem.W.Frag} {mg : Str → Option Value} {w w' w₂ : Wd} {s s' s₂ : S} {H H' H₂ : Hp} {σ : St} {p q : Nat} {B B' : Ends}
theorem PostS.split0 {α : Type} {r : Res α} {g : α → S → Res Fl} (h : PostS K mg W p w s H (r.bind g) B) (hS : StR K w s σ H) (hp : p ≤ s.ce.length) :
    Post K mg W σ s.ce.length w s H r (fun w1 a s1 H1 => StR K w1 s1 σ H1 ∧ Ext s.ce.length w s H w1 s1 H1 ∧ PostS K mg W p w s H (g a s1) B) := by
  cases r with
  | ok a s1 => exact fun w1 H1 h1 e1 => ⟨h1, e1, h⟩
  | exc x s1 => exact fun w1 H1 cls dd h1 e1 q => h w1 σ H1 cls dd h1 (e1.mono hp) q
  | bad => exact h
/-- the locked cells are opened at the loop's end -/
theorem loop_end {cs : List Nat} {w0 w1 : Wd} {s0 s1 : S} {H0 H1 : Hp} (L : Locked w0 s0 w1 s1 cs) (hS : StR K w s σ H) (e0 : Ext p w0 s0 H0 w s H) (e1 : Ext 0 w1 s1 H1 w s H) : StR K w (s.unl cs) σ H ∧ Ext p w0 s0 H0 w (s.unl cs) H := by
  refine unl_ok hS e0 (fun c hc => ?_) fun c hc => ?_
  · obtain ⟨ds, ds', h1, _⟩ := L c hc
    exact ⟨ds, h1⟩
  · obtain ⟨ds, ds', h1, h2, h3⟩ := L c hc
    exact (e1.lk c ds' h2).2.trans h3
theorem unl_np : ∀ (cs : List Nat) (s : S), (s.unl cs).np = s.np
  | [], _ => rfl
  | c :: cs, s => by
    show (S.unl cs _).np = _
    rw [unl_np cs]
    show (match s.cellAt c with | .lk ds => s.put c (.lv ds) | _ => s).np = _
    split <;> rfl
theorem for_at {it : IS} {g : Tg} {dr : List Nat} {body : SS} (h : tS K mg W (forS it g dr body) B σ H) : tFor (tI K mg W it) (gT K g) (tS K mg W body) B σ H := by
  obtain ⟨w0, s0, hS, h⟩ := h
  refine ⟨w0, s0, hS, Post.mono (PostS.split0 h hS hS.np_le) fun w1 q s1 H1 _ _ ⟨hS1, e1, h1⟩ L J hJ => ?_⟩
  obtain ⟨ds, cs⟩ := q
  have L : Locked w0 s0 w1 s1 cs := L
  have hJ : ItOk K J ds w1 s1 H1 := hJ
  have h1 : PostS K mg W s0.np w0 s0 H (loopS g dr body cs ds (s1.clean dr)) B := h1
  have n1 : s1.np = s0.np := e1.nq
  refine ⟨fun i m σ' H' => m = ds.length - i ∧ i ≤ ds.length ∧ ∃ w' s', StR K w' s' σ' H' ∧ Ext s0.np w0 s0 H w' s' H' ∧ Ext s0.np w1 s1 H1 w' s' H' ∧ PostS K mg W s0.np w0 s0 H (loopS g dr body cs (ds.drop i) s') B, ⟨ds.length, by simp, Nat.zero_le _, ?_⟩, ?_⟩
  · obtain ⟨h2, e2⟩ := clean_ok hS1 dr
    rw [n1] at e2
    exact ⟨w1, _, h2, (e1.mono hS.np_le).trans e2 (Nat.le_refl _), e2, h1⟩
  · rintro i m σ' H' ⟨rfl, hi, w', s', hS', e0', e1', hp⟩
    have again : ∀ {s2 : S} {w2 : Wd} {σ2 : St} {H2 : Hp}, i < ds.length → StR K w2 s2 σ2 H2 → Ext s0.np w0 s0 H w2 s2 H2 → Ext s0.np w1 s1 H1 w2 s2 H2 → PostS K mg W s0.np w0 s0 H (loopS g dr body cs (ds.drop (i + 1)) (s2.clean dr)) B →
        (ds.length - (i + 1) = ds.length - (i + 1) ∧ i + 1 ≤ ds.length ∧ ∃ w' s', StR K w' s' σ2 H2 ∧ Ext s0.np w0 s0 H w' s' H2 ∧ Ext s0.np w1 s1 H1 w' s' H2 ∧ PostS K mg W s0.np w0 s0 H (loopS g dr body cs (ds.drop (i + 1)) s') B) := fun {s2 w2 σ2 H2} hlt g1 g2 g3 g4 => by
      obtain ⟨h2, e2⟩ := clean_ok g1 dr
      rw [g2.nq] at e2
      exact ⟨rfl, hlt, w2, _, h2, g2.trans e2 (Nat.le_refl _), g3.trans e2 (Nat.le_refl _), g4⟩
    by_cases hlt : i < ds.length
    · refine .inr ⟨hJ.go i w' s' σ' H' hS' (e1'.mono (Nat.zero_le _)) hlt, fun σ2 H2 => ds.length - (i + 1) = ds.length - (i + 1) ∧ i + 1 ≤ ds.length ∧ ∃ w' s', StR K w' s' σ2 H2 ∧ Ext s0.np w0 s0 H w' s' H2 ∧ Ext s0.np w1 s1 H1 w' s' H2 ∧ PostS K mg W s0.np w0 s0 H (loopS g dr body cs (ds.drop (i + 1)) s') B, fun σ2 H2 hN => ⟨_, by omega, hN⟩, fun x Hx hy => ?_⟩
      obtain ⟨d, ed, hSx, ex, dx⟩ := hJ.yld i w' s' σ' H' x Hx hS' (e1'.mono (Nat.zero_le _)) hlt hy
      have edr : ds.drop i = d :: ds.drop (i + 1) := by
        obtain ⟨q1, q2⟩ := List.getElem?_eq_some_iff.mp ed
        rw [List.drop_eq_getElem_cons q1, q2]
      rw [edr] at hp
      unfold loopS at hp
      cases es : setT g d s' with
      | none => rw [es] at hp; exact hp.elim
      | some s3 =>
        rw [es] at hp
        dsimp only at hp
        have le' : s0.np ≤ s'.ce.length := e0'.ln
        refine setT_ok hSx dx es hSx.np_le fun σ3 hS3 l3 ⟨c1, c2, c3⟩ => ?_
        have ext3 : Ext s0.np w' s' Hx w' s3 Hx := ext_same c3 c1 c2 le'
        have ex3 := (ex.mono le').trans ext3 (Nat.le_refl _)
        have E0 := e0'.trans ex3 (Nat.le_refl _)
        have E1 := e1'.trans ex3 (Nat.le_refl _)
        refine ⟨w', s3, hS3, ?_⟩
        have n3 : s0.np ≤ s3.np := by rw [E0.nq]; exact Nat.le_refl _
        cases eb : body s3 with
        | bad => rw [eb] at hp; exact hp.elim
        | exc x2 s4 =>
          rw [eb] at hp
          dsimp only at hp
          intro w4 σ4 H4 cls dd g1 g2 gx
          obtain ⟨u1, u2⟩ := loop_end L g1 (E0.trans g2 n3) ((E1.trans g2 n3).mono (Nat.zero_le _))
          exact hp w4 σ4 H4 cls dd u1 u2 gx
        | ok a s4 =>
          rw [eb] at hp
          cases a with
          | nx => exact fun w4 σ4 H4 g1 g2 => again hlt g1 (E0.trans g2 n3) (E1.trans g2 n3) hp
          | ct => exact fun w4 σ4 H4 g1 g2 => again hlt g1 (E0.trans g2 n3) (E1.trans g2 n3) hp
          | bk =>
            intro w4 σ4 H4 g1 g2
            obtain ⟨c1, c2⟩ := clean_ok g1 dr
            have n4 : s4.np = s0.np := (E0.trans g2 n3).nq
            rw [n4] at c2
            obtain ⟨u1, u2⟩ := loop_end L c1 ((E0.trans g2 n3).trans c2 (Nat.le_refl _)) (((E1.trans g2 n3).trans c2 (Nat.le_refl _)).mono (Nat.zero_le _))
            exact hp w4 σ4 H4 u1.tr (u2.trans (Ext.tr u1) (by rw [u2.nq]; exact Nat.le_refl _))
          | rt r => exact fun w4 σ4 H4 v g1 g2 hv => hp w4 σ4 H4 v g1 (E0.trans g2 n3) hv
    · have ei : i = ds.length := by omega
      subst ei
      refine .inl ⟨hJ.stop _ w' s' σ' H' hS' (e1'.mono (Nat.zero_le _)) (Nat.le_refl _), ?_⟩
      rw [List.drop_length] at hp
      unfold loopS at hp
      obtain ⟨u1, u2⟩ := loop_end L hS' e0' (e1'.mono (Nat.zero_le _))
      exact hp w' σ' H' u1.tr (u2.trans (Ext.tr u1) (by rw [u2.nq]; exact Nat.le_refl _))
theorem ss_for {iter tg : Expr} {body : List Stmt} {it : IS} {g : Tg} {dr : List Nat} {fb : SS} {pos : Pos} (hp : PassesOwn (model X.prog X.w) X.A X.env X.xe) (hc : X.calm = true) (hi : SI X W tg iter it) (hg : PG X tg (gT X.K g)) (hb : SB X W body fb)
    (hs : ∀ x, foldedSetIterable iter X.env x = pure x := by intro _; rfl) : SSt X W (.For tg iter body [] pos) (forS it g dr fb) := ps_imp (ps_for hp hc hi hg hb hs) fun _ _ _ h => for_at h

/-! ### while -/
def whileN (c : TS') (dr : List Nat) (body : SS) : Nat → SS
  | 0, _ => .bad
  | n + 1, s => (c s).bind fun b s1 => if b = true then (match body s1.tr with
      | .ok .nx s2 => whileN c dr body n (s2.clean dr)
      | .ok .ct s2 => whileN c dr body n (s2.clean dr)
      | .ok .bk s2 => doneS (s2.clean dr)
      | .ok (.rt r) s2 => .ok (.rt r) s2
      | .exc x s2 => .exc x s2
      | .bad => .bad)
    else doneS (s1.clean dr)
open Classical in
noncomputable def whileS (c : TS') (dr : List Nat) (body : SS) : SS := fun s => if h : ∃ n, whileN c dr body n s ≠ .bad then whileN c dr body h.choose s else .bad
theorem while_at {c : TS'} {dr : List Nat} {body : SS} (h : tS K mg W (whileS c dr body) B σ H) : tWhile (tT K mg W c) (tS K mg W body) B σ H := by
  obtain ⟨w0, s0, hS, h⟩ := h
  unfold whileS at h
  split at h
  · rename_i hn
    generalize hn.choose = n at h
    refine ⟨fun m σ' H' => ∃ w' s', StR K w' s' σ' H' ∧ Ext s0.np w0 s0 H w' s' H' ∧ PostS K mg W s0.np w0 s0 H (whileN c dr body m s') B, ⟨n, w0, s0, hS, Ext.refl hS.np_le, h⟩, ?_⟩
    rintro m σ' H' ⟨w', s', hS', e0', hp⟩
    cases m with
    | zero => exact hp.elim
    | succ m =>
      unfold whileN at hp
      refine ⟨w', s', hS', ?_⟩
      have n' : s'.np = s0.np := e0'.nq
      cases ec : c s' with
      | bad => rw [ec] at hp; exact hp.elim
      | exc x s1 =>
        rw [ec] at hp
        exact fun w1 H1 cls dd g1 g2 gx => hp w1 σ' H1 cls dd g1 (e0'.trans g2 e0'.ln) gx
      | ok b s1 =>
        rw [ec] at hp
        intro w1 H1 hS1 g1
        have E1 := e0'.trans (g1.mono e0'.ln) (Nat.le_refl _)
        have n1 : s1.np = s0.np := E1.nq
        have hp : PostS K mg W s0.np w0 s0 H (if b = true then _ else _) B := hp
        cases b with
        | false =>
          rw [if_neg Bool.false_ne_true] at hp
          dsimp only
          rw [if_neg Bool.false_ne_true]
          obtain ⟨c1, c2⟩ := clean_ok hS1 dr
          rw [n1] at c2
          have E2 := E1.trans c2 (Nat.le_refl _)
          exact hp w1 σ' H1 c1.tr (E2.trans (Ext.tr c1) (by rw [E2.nq]; exact Nat.le_refl _))
        | true =>
          rw [if_pos rfl] at hp
          dsimp only
          rw [if_pos rfl]
          refine ⟨fun σ2 H2 => ∃ w' s', StR K w' s' σ2 H2 ∧ Ext s0.np w0 s0 H w' s' H2 ∧ PostS K mg W s0.np w0 s0 H (whileN c dr body m s') B, fun σ2 H2 hN => ⟨m, Nat.lt_succ_self _, hN⟩, w1, s1.tr, hS1.tr, ?_⟩
          have x1 := Ext.tr hS1
          rw [n1] at x1
          have E2 := E1.trans x1 (Nat.le_refl _)
          have n2 : s0.np ≤ s1.tr.np := by rw [E2.nq]; exact Nat.le_refl _
          have again : ∀ {s2 : S} {w2 : Wd} {σ2 : St} {H2 : Hp}, StR K w2 s2 σ2 H2 → Ext s0.np w0 s0 H w2 s2 H2 → PostS K mg W s0.np w0 s0 H (whileN c dr body m (s2.clean dr)) B → ∃ w' s', StR K w' s' σ2 H2 ∧ Ext s0.np w0 s0 H w' s' H2 ∧ PostS K mg W s0.np w0 s0 H (whileN c dr body m s') B := fun {s2 w2 σ2 H2} g1 g2 g3 => by
            obtain ⟨c1, c2⟩ := clean_ok g1 dr
            rw [g2.nq] at c2
            exact ⟨w2, _, c1, g2.trans c2 (Nat.le_refl _), g3⟩
          cases eb : body s1.tr with
          | bad => rw [eb] at hp; exact hp.elim
          | exc x2 s4 =>
            rw [eb] at hp
            exact fun w4 σ4 H4 cls dd g1 g2 gx => hp w4 σ4 H4 cls dd g1 (E2.trans g2 n2) gx
          | ok a s4 =>
            rw [eb] at hp
            cases a with
            | nx => exact fun w4 σ4 H4 g1 g2 => again g1 (E2.trans g2 n2) hp
            | ct => exact fun w4 σ4 H4 g1 g2 => again g1 (E2.trans g2 n2) hp
            | bk =>
              intro w4 σ4 H4 g1 g2
              obtain ⟨c1, c2⟩ := clean_ok g1 dr
              have E4 := E2.trans g2 n2
              rw [E4.nq] at c2
              have E5 := E4.trans c2 (Nat.le_refl _)
              exact hp w4 σ4 H4 c1.tr (E5.trans (Ext.tr c1) (by rw [E5.nq]; exact Nat.le_refl _))
            | rt r => exact fun w4 σ4 H4 v g1 g2 hv => hp w4 σ4 H4 v g1 (E2.trans g2 n2) hv
  · exact h.elim
theorem ss_while {c : Expr} {body : List Stmt} {fc : TS'} {dr : List Nat} {fb : SS} {pos : Pos} (hp : PassesOwn (model X.prog X.w) X.A X.env X.xe) (hc : ST X W c fc) (hb : SB X W body fb) : SSt X W (.While c body [] pos) (whileS fc dr fb) := ps_imp (ps_while hp hc hb) fun _ _ _ h => while_at h
end
end E
/-! E11: list comprehensions of one and of two sources. -/
namespace E
open PySem PySem.Spec PyProof.Rows L2

def W0 : WX := fun _ _ _ _ => False
def wipeS (vs : List Nat) (sl : List (Option R)) : List (Option R) := vs.foldr (fun v l => l.set v none) sl
def S.back (s : S) (sl : List (Option R)) (m : Nat) : S := { s with sl := sl, ce := s.ce.take m }
/-- an item more in cell n -/
def addC (n : Nat) (r : R) (s : S) : Option S := match s.frz r with
  | some (d, s1) => match s1.cellAt n with
    | .lv acc => if acc.length < sizeLine then some (s1.put n (.lv (acc ++ [d]))) else none
    | _ => none
  | none => none
def addE (fe : ES) (n : Nat) (s : S) : Option S := match fe s with
  | .ok r s1 => addC n r s1
  | _ => none
def compL (g : Tg) (ft : TS') (bd : S → Option S) (sl : List (Option R)) (m : Nat) : List D → S → Option S
  | [], s => some s
  | d :: ds, s => match setT g d s with
    | none => none
    | some s1 => match ft s1 with
      | .ok b s2 => if b = true then (match bd s2 with
          | some s3 => compL g ft bd sl m ds (s3.back sl m)
          | none => none) else compL g ft bd sl m ds (s2.back sl m)
      | _ => none
/-- the inner loop of a comprehension of two sources -/
def innerL (it : IS) (g : Tg) (vs : List Nat) (ft : TS') (bd : S → Option S) (s : S) : Option S := match it s with
  | .ok q s1 => match compL g ft bd (wipeS vs s1.sl) s1.ce.length q.1 { s1 with sl := wipeS vs s1.sl } with
    | some s2 => some (s2.unl q.2)
    | none => none
  | _ => none
/-- the list's cell is the next; bd adds to it -/
def compG (it : IS) (g : Tg) (vs : List Nat) (ft : TS') (bd : Nat → S → Option S) : ES := fun s => (it s).bind fun q s1 =>
  match compL g ft (bd s1.ce.length) (wipeS vs s1.sl) (s1.ce.length + 1) q.1 { s1.push (.lv []) with sl := wipeS vs s1.sl } with
  | some s2 => .ok (.own s1.ce.length) ((s2.back s1.sl (s1.ce.length + 1)).unl q.2)
  | none => .bad
def compS (it : IS) (g : Tg) (vs : List Nat) (ft : TS') (fe : ES) : ES := compG it g vs ft (addE fe)
def comp2S (it : IS) (g : Tg) (vs : List Nat) (ft : TS') (it1 : IS) (g1 : Tg) (vs1 : List Nat) (ft1 : TS') (fe : ES) : ES := compG it g vs ft fun n => innerL it1 g1 vs1 ft1 (addE fe n)
def yesT : TS' := fun s => .ok true s
section
variable {K : PySem.W.Frag} {mg : Str → Option Value} {W : WX} {w w' w₂ w0 w1 : Wd} {s s' s₂ s0 s1 : S} {H H' H₂ H0 H1 : Hp} {σ σ' σ0 : St} {p q m n : Nat}
theorem wipeS_len : ∀ {vs : List Nat} {sl : List (Option R)}, (wipeS vs sl).length = sl.length
  | [], _ => rfl
  | v :: vs, sl => by show ((wipeS vs sl).set v none).length = _; rw [List.length_set, wipeS_len]
theorem wipeS_get : ∀ {vs : List Nat} {sl : List (Option R)} {i : Nat} {r : R}, (wipeS vs sl)[i]? = some (some r) → i ∉ vs ∧ sl[i]? = some (some r)
  | [], _, _, _, h => ⟨by simp, h⟩
  | v :: vs, sl, i, r, h => by
    have h : ((wipeS vs sl).set v none)[i]? = some (some r) := h
    by_cases hv : v = i
    · subst hv
      by_cases hl : v < (wipeS vs sl).length
      · rw [List.getElem?_set_self hl] at h; cases h
      · rw [List.getElem?_eq_none (by simpa using hl)] at h; cases h
    · rw [List.getElem?_set_ne hv] at h
      obtain ⟨a, b⟩ := wipeS_get h
      exact ⟨by simp [a, Ne.symm hv], b⟩
/-- the block's own names forgotten -/
theorem StR.wiped (h : StR K w s σ H) (vs : List Nat) : StR K w { s with sl := wipeS vs s.sl } (wipe σ vs) H where
  cl := h.cl
  inj := h.inj
  sl := fun i r e => by
    obtain ⟨a, b⟩ := wipeS_get (show (wipeS vs s.sl)[i]? = some (some r) from e)
    obtain ⟨v, e1, e2⟩ := h.sl i r b
    refine ⟨v, ?_, e2⟩
    rw [wipe_get, if_neg (fun z => a z.1)]
    exact e1
  sn := by
    show (wipeS vs s.sl).length ≤ _
    rw [wipeS_len, wipe_length]
    exact h.sn
  zt := h.zt
  sb := fun i c e => by
    show c < s.np + (wipeS vs s.sl).length
    rw [wipeS_len]
    exact h.sb i c (wipeS_get (show (wipeS vs s.sl)[i]? = some (some (.own c)) from e)).2
  bs := by
    show s.np + (wipeS vs s.sl).length ≤ _
    rw [wipeS_len]
    exact h.bs
  lb := fun i ds e => by
    show i < s.np + (wipeS vs s.sl).length
    rw [wipeS_len]
    exact h.lb i ds e
theorem StR.unwipe {vs : List Nat} (h : StR K w s (wipe σ vs) H) : StR K w s σ H where
  cl := h.cl
  inj := h.inj
  sl := fun i r e => by
    obtain ⟨v, e1, e2⟩ := h.sl i r e
    exact ⟨v, (wipe_some e1).1, e2⟩
  sn := by have := h.sn; rw [wipe_length] at this; exact this
  zt := h.zt
  sb := h.sb
  bs := h.bs
  lb := h.lb
theorem back_get {sl : List (Option R)} {i : Nat} {c : Cell} (e : (s.back sl m).ce[i]? = some c) : i < m ∧ s.ce[i]? = some c := by
  have e : (s.ce.take m)[i]? = some c := e
  rw [List.getElem?_take] at e
  split at e
  · rename_i h; exact ⟨h, e⟩
  · cases e
/-- back at the loop's head: the slots as they were at (w0, s0) -/
theorem back_ok (h0 : StR K w0 s0 σ0 H0) (h : StR K w s σ H) (e : Ext m w0 s0 H0 w s H) (hm : s0.ce.length = m) : StR K w (s.back s0.sl m) σ0 H ∧ Ext m w0 s0 H0 w (s.back s0.sl m) H := by
  have lt : m ≤ s.ce.length := e.ln
  have ln : (s.back s0.sl m).ce.length = m := by show (s.ce.take m).length = m; rw [List.length_take]; omega
  have bs0 := h0.bs
  have hb : s.np + s0.sl.length ≤ m := by rw [e.nq]; omega
  refine ⟨⟨fun i c q => h.cl i c (back_get q).2, fun i j x y q1 q2 => h.inj i j x y (back_get q1).2 (back_get q2).2, fun i r q => ?_, h0.sn, h.zt, fun i c q => ?_, by rw [ln]; exact hb, fun i ds q => ?_⟩,
    ⟨e.z, e.zn, e.k, fun a ⟨i, ds, q, ea⟩ => e.lz a ⟨i, ds, (back_get q).2, ea⟩, e.pr, by rw [ln]; exact Nat.le_refl _, fun i ds q => ?_, e.nq, rfl⟩⟩
  · obtain ⟨v, e1, e2⟩ := h0.sl i r q
    refine ⟨v, e1, ?_⟩
    cases r with
    | sh d => exact Den.stay (h0.stay e) e2
    | own c =>
      have hc : c < m := by rw [← hm]; exact e2.2
      exact ⟨by rw [e.pr c hc]; exact e2.1, by rw [ln]; exact hc⟩
  · show c < s.np + s0.sl.length
    rw [e.nq]
    exact h0.sb i c q
  · show i < s.np + s0.sl.length
    rw [← e.sq]
    exact h.lb i ds (back_get q).2
  · obtain ⟨q1, q2⟩ := e.lk i ds q
    refine ⟨?_, q2⟩
    have hi : i < m := by rw [← hm]; exact (List.getElem?_eq_some_iff.mp q).1
    show (s.ce.take m)[i]? = _
    rw [List.getElem?_take, if_pos hi]
    exact q1
theorem addC_ok (hS : StR K w s σ H) {r : R} {v : V} (hr : RR K w s.ce.length H v r) (h : addC n r s = some s') (hn : n < s.ce.length) :
    ∃ acc, H (w.ρ n) = some (.lst acc) ∧ acc.length < sizeLine ∧ ∃ w', StR K w' s' σ (upd H (w.ρ n) (.lst (acc ++ [v]))) ∧ Ext s.ce.length w s H w' s' (upd H (w.ρ n) (.lst (acc ++ [v]))) := by
  unfold addC at h
  split at h
  · rename_i d s1 ef
    obtain ⟨w1, hS1, x1, d1, l1⟩ := frz_ok hS ef hr
    split at h
    · rename_i ds ec
      split at h
      · rename_i hz
        cases h
        have hc := cellAt_lv ec
        obtain ⟨_, ys, hH, hd⟩ := hS1.cl n _ hc
        have en : w1.ρ n = w.ρ n := x1.pr n hn
        rw [en] at hH
        obtain ⟨g1, g2⟩ := hS1.write hc (hd.append (.cons d1 .nil))
        rw [en] at g1 g2
        exact ⟨ys, hH, by rw [hd.length]; exact hz, w1, g1, x1.trans g2 (by omega)⟩
      · cases h
    · cases h
  · cases h
/-- the turns of a comprehension's loop -/
theorem compL_at {J : It} {ds : List D} {g : Tg} {ft : TS'} {bd : S → Option S} {vs : List Nat} {w1 w2 : Wd} {s1 s2 sf : S} {H1 H2 : Hp} {σw : St} {T : St → Hp → (Hp → Prop) → Prop} {Fin : Hp → Prop}
    (hJ : ItOk K J ds w1 s1 H1) (e12 : Ext 0 w1 s1 H1 w2 s2 H2) (h2 : StR K w2 s2 (wipe σw vs) H2) (hm : s2.ce.length = m) (hgs : ∀ i ∈ g.slots, i ∈ vs)
    (hbd : ∀ (w : Wd) (s s' : S) (σ2 : St) (H : Hp) (Nx : Hp → Prop), StR K w s σ2 H → Ext m w2 s2 H2 w s H → bd s = some s' → (∀ w' H', StR K w' s' σ2 H' → Ext m w s H w' s' H' → Nx H') → T σ2 H Nx)
    (hF : ∀ w' H', StR K w' sf (wipe σw vs) H' → Ext m w2 s2 H2 w' sf H' → Fin H') (h : compL g ft bd s2.sl m ds s2 = some sf) :
    ∃ Wq : Nat → Nat → Hp → Prop, (∃ k, Wq 0 k H2) ∧ ∀ i k H, Wq i k H → (J.stop i H ∧ Fin H) ∨ (J.go i H ∧ ∃ Nx : Hp → Prop, (∀ H', Nx H' → ∃ k', k' < k ∧ Wq (i + 1) k' H') ∧
      ∀ x H', J.yld i H x H' → gT K g x (wipe σw vs) H' fun σ2 H2 => wipe σ2 vs = wipe σw vs ∧ tT K mg W0 ft σ2 H2 fun b H3 => if b = true then T σ2 H3 Nx else Nx H3) := by
  refine ⟨fun i k H => k = ds.length - i ∧ i ≤ ds.length ∧ ∃ w s, StR K w s (wipe σw vs) H ∧ Ext m w2 s2 H2 w s H ∧ compL g ft bd s2.sl m (ds.drop i) s = some sf, ⟨ds.length, by simp, Nat.zero_le _, w2, s2, h2, Ext.refl (Nat.le_of_eq hm.symm), h⟩, ?_⟩
  rintro i k H ⟨rfl, hi, w, s, hS, e, hc⟩
  have e1 : Ext 0 w1 s1 H1 w s H := e12.trans (e.mono (Nat.zero_le _)) (Nat.le_refl _)
  by_cases hlt : i < ds.length
  · refine .inr ⟨hJ.go i w s _ H hS e1 hlt, fun H' => ∃ w s, StR K w s (wipe σw vs) H' ∧ Ext m w2 s2 H2 w s H' ∧ compL g ft bd s2.sl m (ds.drop (i + 1)) s = some sf, fun H' hN => ⟨_, by omega, rfl, hlt, hN⟩, fun x Hx hy => ?_⟩
    obtain ⟨d, ed, hSx, ex, dx⟩ := hJ.yld i w s _ H x Hx hS e1 hlt hy
    have edr : ds.drop i = d :: ds.drop (i + 1) := by
      obtain ⟨q1, q2⟩ := List.getElem?_eq_some_iff.mp ed
      rw [List.drop_eq_getElem_cons q1, q2]
    rw [edr] at hc
    unfold compL at hc
    have le : m ≤ s.ce.length := e.ln
    cases es : setT g d s with
    | none => rw [es] at hc; cases hc
    | some s3 =>
      rw [es] at hc
      dsimp only at hc
      refine setT_ok hSx dx es hSx.np_le fun σ3 hS3 l3 ⟨c1, c2, c3⟩ => ?_
      have E3 : Ext m w2 s2 H2 w s3 Hx := (e.trans (ex.mono le) (Nat.le_refl _)).trans (ext_same c3 c1 c2 le) (Nat.le_refl _)
      have wz : wipe σ3 vs = wipe σw vs := by
        rw [wipe_eq l3.1 fun j hj => l3.2 j fun z => hj (hgs j z)]
        refine wipe_eq (by rw [wipe_length]) fun j hj => ?_
        rw [wipe_get, if_neg (fun z => hj z.1)]
      refine ⟨wz, w, s3, hS3, ?_⟩
      have fin : ∀ {w4 : Wd} {s4 : S} {H4 : Hp}, StR K w4 s4 σ3 H4 → Ext m w2 s2 H2 w4 s4 H4 → compL g ft bd s2.sl m (ds.drop (i + 1)) (s4.back s2.sl m) = some sf → ∃ w s, StR K w s (wipe σw vs) H4 ∧ Ext m w2 s2 H2 w s H4 ∧ compL g ft bd s2.sl m (ds.drop (i + 1)) s = some sf := fun {w4 s4 H4} a b c => by
        obtain ⟨q1, q2⟩ := back_ok h2 a b hm
        exact ⟨w4, _, q1, q2, c⟩
      cases et : ft s3 with
      | bad => rw [et] at hc; cases hc
      | exc x s4 => rw [et] at hc; cases hc
      | ok b s4 =>
        rw [et] at hc
        dsimp only at hc
        intro w4 H4 hS4 e4
        have E4 : Ext m w2 s2 H2 w4 s4 H4 := E3.trans (e4.mono (by rw [c1]; exact le)) (Nat.le_refl _)
        cases b with
        | false =>
          rw [if_neg Bool.false_ne_true] at hc
          dsimp only
          rw [if_neg Bool.false_ne_true]
          exact fin hS4 E4 hc
        | true =>
          rw [if_pos rfl] at hc
          dsimp only
          rw [if_pos rfl]
          cases eb : bd s4 with
          | none => rw [eb] at hc; cases hc
          | some s5 =>
            rw [eb] at hc
            exact hbd w4 s4 s5 σ3 H4 _ hS4 E4 eb fun w5 H5 hS5 e5 => fin hS5 (E4.trans e5 (Nat.le_refl _)) hc
  · have ei : i = ds.length := by omega
    subst ei
    rw [List.drop_length] at hc
    unfold compL at hc
    cases hc
    exact .inl ⟨hJ.stop _ w _ _ H hS e1 (Nat.le_refl _), hF w H hS e⟩
/-- an item of the list at D -/
theorem addE_at {fe : ES} {D : Addr} {Nx : Hp → Prop} (hS : StR K w s σ H) (h : addE fe n s = some s') (hn : n < m) (hm : m ≤ s.ce.length) (hD : w.ρ n = D) (k : ∀ w' H', StR K w' s' σ H' → Ext m w s H w' s' H' → Nx H') :
    tE K mg W0 fe σ H fun y H4 => ∃ acc, H4 D = some (.lst acc) ∧ acc.length < sizeLine ∧ Nx (upd H4 D (.lst (acc ++ [y]))) := by
  unfold addE at h
  refine ⟨w, s, hS, ?_⟩
  cases ef : fe s with
  | bad => rw [ef] at h; cases h
  | exc x s1 => rw [ef] at h; cases h
  | ok r s1 =>
    rw [ef] at h
    intro w1 H1 hS1 e1 v hv
    obtain ⟨acc, a1, a2, w2, g1, g2⟩ := addC_ok hS1 hv h (by have := e1.ln; omega)
    have eD : w1.ρ n = D := (e1.pr n (by omega)).trans hD
    rw [eD] at a1 g1 g2
    exact ⟨acc, a1, a2, k w2 _ g1 ((e1.mono hm).trans (g2.mono (Nat.le_trans hm e1.ln)) (Nat.le_refl _))⟩
/-- the heads of both forms -/
theorem compG_at {it : IS} {g : Tg} {ft : TS'} {bd : Nat → S → Option S} {vs : List Nat} {Q : VK} {T : Addr → St → Hp → (Hp → Prop) → Prop} (hgs : ∀ i ∈ g.slots, i ∈ vs)
    (hbd : ∀ (D : Addr) (n m : Nat) (w : Wd) (s s' : S) (σ2 : St) (H : Hp) (Nx : Hp → Prop), StR K w s σ2 H → n < m → m ≤ s.ce.length → w.ρ n = D → bd n s = some s' → (∀ w' H', StR K w' s' σ2 H' → Ext m w s H w' s' H' → Nx H') → T D σ2 H Nx)
    (h : tE K mg W (compG it g vs ft bd) σ H Q) : tI K mg W it σ H fun J H1 => ∀ D, H1 D = none → ∃ Wq : Nat → Nat → Hp → Prop, (∃ m, Wq 0 m (upd H1 D (.lst []))) ∧ ∀ i m H, Wq i m H →
      (J.stop i H ∧ Q (.ref D) H) ∨ (J.go i H ∧ ∃ Nx : Hp → Prop, (∀ H', Nx H' → ∃ m', m' < m ∧ Wq (i + 1) m' H') ∧ ∀ x H', J.yld i H x H' → gT K g x (wipe σ vs) H' fun σ2 H2 => wipe σ2 vs = wipe σ vs ∧ tT K mg W0 ft σ2 H2 fun b H3 =>
        if b = true then T D σ2 H3 Nx else Nx H3) := by
  obtain ⟨w, s, hS, h⟩ := h
  unfold compG at h
  refine ⟨w, s, hS, ?_⟩
  cases ei : it s with
  | bad => rw [ei] at h; exact h.elim
  | exc x s1 => rw [ei] at h; exact h
  | ok q s1 =>
    obtain ⟨ds, cs⟩ := q
    rw [ei] at h
    intro w1 H1 hS1 e1 L J hJ D hD
    have L : Locked w s w1 s1 cs := L
    have hJ : ItOk K J ds w1 s1 H1 := hJ
    obtain ⟨g1, g2, _⟩ := hS1.new (ds := []) hD .nil
    have ln : (s1.push (.lv [])).ce.length = s1.ce.length + 1 := push_len
    have h : Post K mg W σ s.ce.length w s H (match compL g ft (bd s1.ce.length) (wipeS vs s1.sl) (s1.ce.length + 1) ds { s1.push (.lv []) with sl := wipeS vs s1.sl } with
      | some s2 => .ok (.own s1.ce.length) ((s2.back s1.sl (s1.ce.length + 1)).unl cs)
      | none => .bad) (QV K Q) := h
    cases ec : compL g ft (bd s1.ce.length) (wipeS vs s1.sl) (s1.ce.length + 1) ds { s1.push (.lv []) with sl := wipeS vs s1.sl } with
    | none => rw [ec] at h; exact h.elim
    | some sf =>
      rw [ec] at h
      have hsl : Ext s1.ce.length w1 s1 H1 (w1.at s1.ce.length D) { s1.push (.lv []) with sl := wipeS vs s1.sl } (upd H1 D (.lst [])) :=
        g2.trans (ext_same (by show (wipeS vs s1.sl).length = s1.sl.length; exact wipeS_len) rfl rfl (by rw [ln]; omega)) (Nat.le_refl _)
      refine compL_at (T := T D) (Fin := fun H => Q (.ref D) H) (m := s1.ce.length + 1) hJ (hsl.mono (Nat.zero_le _)) (g1.wiped vs) ln hgs (fun w' s' s'' σ2 H' Nx a b c k => ?_) (fun w' H' a b => ?_) ec
      · have pr : w'.ρ s1.ce.length = D := by rw [b.pr _ (Nat.lt_succ_self _)]; exact if_pos rfl
        exact hbd D s1.ce.length (s1.ce.length + 1) w' s' s'' σ2 H' Nx a (Nat.lt_succ_self _) b.ln pr c k
      · -- the end
        have b2 : Ext (s1.ce.length + 1) (w1.at s1.ce.length D) (s1.push (.lv [])) (upd H1 D (.lst [])) w' sf H' :=
          (ext_same (by show (wipeS vs s1.sl).length = s1.sl.length; exact wipeS_len) rfl rfl (by rw [ln]; exact Nat.le_refl _) : Ext _ _ (s1.push (.lv [])) _ _ { s1.push (.lv []) with sl := wipeS vs s1.sl } _).trans b (Nat.le_refl _)
        obtain ⟨q1, q2⟩ := back_ok g1 a b2 ln
        have pr : w'.ρ s1.ce.length = D := by rw [b2.pr _ (Nat.lt_succ_self _)]; exact if_pos rfl
        have E1 := g2.trans (q2.mono (Nat.le_succ _)) (Nat.le_refl _)
        have E0 := e1.trans E1 e1.ln
        obtain ⟨u1, u2⟩ := loop_end L q1 E0 (E1.mono (Nat.zero_le _))
        refine h w' H' u1 u2 _ ⟨by rw [pr], ?_⟩
        rw [unl_len]
        have : s1.ce.length + 1 ≤ (sf.back s1.sl (s1.ce.length + 1)).ce.length := q2.ln
        omega
/-- the inner loop -/
theorem inner_at {it : IS} {g : Tg} {ft : TS'} {bd : S → Option S} {vs : List Nat} {Nx : Hp → Prop} {T : St → Hp → (Hp → Prop) → Prop} (hgs : ∀ i ∈ g.slots, i ∈ vs) (hS : StR K w s σ H) (hm : m ≤ s.ce.length)
    (hbd : ∀ (m' : Nat) (w' : Wd) (s' s'' : S) (σ2 : St) (H : Hp) (Nx : Hp → Prop), m ≤ m' → StR K w' s' σ2 H → m' ≤ s'.ce.length → (∀ i, i < m → w'.ρ i = w.ρ i) → bd s' = some s'' → (∀ w2 H', StR K w2 s'' σ2 H' → Ext m' w' s' H w2 s'' H' → Nx H') → T σ2 H Nx)
    (h : innerL it g vs ft bd s = some s') (k : ∀ w' H', StR K w' s' σ H' → Ext m w s H w' s' H' → Nx H') :
    tI K mg W0 it σ H fun J1 H4 => ∃ W1 : Nat → Nat → Hp → Prop, (∃ m, W1 0 m H4) ∧ ∀ j k H, W1 j k H →
      (J1.stop j H ∧ Nx H) ∨ (J1.go j H ∧ ∃ Nx1 : Hp → Prop, (∀ H', Nx1 H' → ∃ k', k' < k ∧ W1 (j + 1) k' H') ∧ ∀ x H', J1.yld j H x H' → gT K g x (wipe σ vs) H' fun σ3 H5 => wipe σ3 vs = wipe σ vs ∧ tT K mg W0 ft σ3 H5 fun b H6 =>
        if b = true then T σ3 H6 Nx1 else Nx1 H6) := by
  unfold innerL at h
  refine ⟨w, s, hS, ?_⟩
  cases ei : it s with
  | bad => rw [ei] at h; cases h
  | exc x s1 => rw [ei] at h; cases h
  | ok q s1 =>
    obtain ⟨ds, cs⟩ := q
    rw [ei] at h
    intro w1 H1 hS1 e1 L J hJ
    have L : Locked w s w1 s1 cs := L
    have hJ : ItOk K J ds w1 s1 H1 := hJ
    dsimp only at h
    cases ec : compL g ft bd (wipeS vs s1.sl) s1.ce.length ds { s1 with sl := wipeS vs s1.sl } with
    | none => rw [ec] at h; cases h
    | some sf =>
      rw [ec] at h
      dsimp only at h
      have hs' : sf.unl cs = s' := Option.some.inj h
      have ew : Ext s1.ce.length w1 s1 H1 w1 { s1 with sl := wipeS vs s1.sl } H1 := ext_same (by show (wipeS vs s1.sl).length = s1.sl.length; exact wipeS_len) rfl rfl (Nat.le_refl _)
      refine compL_at (T := T) (Fin := Nx) (m := s1.ce.length) hJ (ew.mono (Nat.zero_le _)) (hS1.wiped vs) rfl hgs (fun w' s2 s'' σ2 H' Nx' a b c k' => ?_) (fun w' H' a b => ?_) ec
      · refine hbd s1.ce.length w' s2 s'' σ2 H' Nx' (Nat.le_trans hm e1.ln) a b.ln (fun i hi => ?_) c k'
        rw [b.pr i (Nat.lt_of_lt_of_le hi (Nat.le_trans hm e1.ln)), e1.pr i (Nat.lt_of_lt_of_le hi hm)]
      · have E1 := ew.trans b (Nat.le_refl _)
        have E0 := e1.trans E1 e1.ln
        obtain ⟨u1, u2⟩ := loop_end L a.unwipe E0 (E1.mono (Nat.zero_le _))
        rw [hs'] at u1 u2
        exact k w' H' u1 (u2.mono hm)
theorem comp_at {it : IS} {g : Tg} {ft : TS'} {fe : ES} {vs : List Nat} {Q : VK} (hgs : ∀ i ∈ g.slots, i ∈ vs) (h : tE K mg W (compS it g vs ft fe) σ H Q) : tLc (tI K mg W it) (gT K g) (tT K mg W0 ft) (tE K mg W0 fe) vs σ H Q :=
  compG_at (T := fun D σ2 H3 Nx => tE K mg W0 fe σ2 H3 fun y H4 => ∃ acc, H4 D = some (.lst acc) ∧ acc.length < sizeLine ∧ Nx (upd H4 D (.lst (acc ++ [y])))) hgs
    (fun D n m w s s' σ2 H Nx a b c d e k => addE_at a e b c d k) h
theorem comp2_at {it it1 : IS} {g gg : Tg} {ft ft1 : TS'} {fe : ES} {vs vs1 : List Nat} {Q : VK} (hgs : ∀ i ∈ g.slots, i ∈ vs) (hgs1 : ∀ i ∈ gg.slots, i ∈ vs1) (h : tE K mg W (comp2S it g vs ft it1 gg vs1 ft1 fe) σ H Q) :
    tLc2 (tI K mg W it) (gT K g) (tT K mg W0 ft) (tI K mg W0 it1) (gT K gg) (tT K mg W0 ft1) (tE K mg W0 fe) vs vs1 σ H Q :=
  compG_at hgs (fun D n m w s s' σ2 H Nx a b c d e k => inner_at (T := fun σ2 H3 Nx => tE K mg W0 fe σ2 H3 fun y H4 => ∃ acc, H4 D = some (.lst acc) ∧ acc.length < sizeLine ∧ Nx (upd H4 D (.lst (acc ++ [y])))) hgs1 a c
    (fun m' w' s' s'' σ2 H Nx hm a' b' c' d' k' => addE_at a' d' (Nat.lt_of_lt_of_le b hm) b' ((c' n b).trans d) k') e k) h
end
/-! ### the rules -/
section
variable {X : Cx} {W : WX} {elt tg iter tg1 iter1 : Expr} {ifs ifs1 : List Expr} {scope : Scope} {own : List (Str × Nat)} {vs vs1 : List Nat} {pos spos py : Pos} {it it1 : IS} {g gg : Tg} {ft ft1 : TS'} {fe : ES} {i : Nat} {y : Str}
/-- what holds of every context of the block -/
def Blk (X : Cx) (scope : Scope) (J : Cx → Prop) : Prop := ∀ (s : Shared) (H : Hp) (C : Addr) (cl : List (Str × Addr)) (fp : List Addr), J (X.blk s H scope (compEnvC scope cl C X.env) fp)
def STs (X : Cx) (ifs : List Expr) (f : TS') : Prop := PTs X ifs (tT X.K X.mg W0 f)
theorem sts_nil : STs X [] yesT := ⟨fun pins s σ H Q I ⟨w, s', hS, h⟩ => (pts_nil (X := X)).run pins s σ H Q I (h w H hS (Ext.refl (Nat.le_refl _)))⟩
theorem sts_one {c : Expr} (h : ST X W0 c ft) : STs X [c] ft := pts_one h
theorem se_comp (hc : X.calm = true) (hN : X.N.Nodup) (hi : SI X W tg iter it) (ok : BlkOk X.N X.env.scope scope own) (hv : vs = own.map (·.2)) (hgs : ∀ i ∈ g.slots, i ∈ vs) (hg : Blk X scope fun Y => PG Y tg (gT X.K g))
    (ht : Blk X scope fun Y => STs Y ifs ft) (he : Blk X scope fun Y => SE Y W0 elt fe) (hs : ∀ x, foldedSetIterable iter X.env x = pure x := by intro _; rfl) : SE X W (.ListComp elt [⟨tg, iter, ifs, 0⟩] scope pos) (compS it g vs ft fe) := by
  subst hv
  exact pe_imp (pe_lc (tt := tT X.K X.mg W0 ft) (te := tE X.K X.mg W0 fe) hc hN hi ok hg ht he hs) fun σ H Q h => comp_at hgs h
theorem se_comp2 (hc : X.calm = true) (hN : X.N.Nodup) (hi : SI X W tg iter it) (ok : BlkOk X.N X.env.scope scope own) (hv : vs = own.map (·.2)) (hv1 : ∀ i ∈ vs1, i ∈ own.map (·.2)) (hgs : ∀ i ∈ g.slots, i ∈ vs) (hgs1 : ∀ i ∈ gg.slots, i ∈ vs1)
    (hg : Blk X scope fun Y => PG Y tg (gT X.K g)) (ht : Blk X scope fun Y => STs Y ifs ft) (hi1 : Blk X scope fun Y => SI Y W0 tg1 iter1 it1) (hg1 : Blk X scope fun Y => PG Y tg1 (gT X.K gg)) (ht1 : Blk X scope fun Y => STs Y ifs1 ft1)
    (he : Blk X scope fun Y => SE Y W0 elt fe) (hs : ∀ x, foldedSetIterable iter X.env x = pure x := by intro _; rfl) (hs1 : ∀ env x, foldedSetIterable iter1 env x = pure x := by intro _ _; rfl) :
    SE X W (.ListComp elt [⟨tg, iter, ifs, 0⟩, ⟨tg1, iter1, ifs1, 0⟩] scope pos) (comp2S it g vs ft it1 gg vs1 ft1 fe) := by
  subst hv
  exact pe_imp (pe_lc2 (wi1 := tI X.K X.mg W0 it1) (tt := tT X.K X.mg W0 ft) (tt1 := tT X.K X.mg W0 ft1) (te := tE X.K X.mg W0 fe) hc hN hi ok hv1 hg ht hi1 hg1 ht1 he hs hs1) fun σ H Q h => comp2_at hgs hgs1 h
theorem set_at {K : PySem.W.Frag} {mg : Str → Option Value} {W : WX} {B : Ends} {σ : St} {H : Hp} {f : ES} {i : Nat} (h : tS K mg W (setS i f) B σ H) : tE K mg W f σ H fun v H1 => B.nx (σ.set i (some v)) H1 := by
  obtain ⟨w, s, hS, h⟩ := h
  refine ⟨w, s, hS, Post.mono (PostS.split h hS hS.np_le) fun w1 r1 s1 H1 _ _ ⟨hS1, e1, h1⟩ v hv => ?_⟩
  exact stored h1 hS1 (Nat.le_of_eq e1.nq.symm) hv
theorem ss_setComp (hc : X.calm = true) (hN : X.N.Nodup) (hy : X.N[i]? = some y) (hyl : X.env.scope.names.lookup y = some .local) (hsw : swapsWith (.ListComp elt [⟨tg, iter, ifs, 0⟩] scope pos) (some (.Name y py)) spos.line X.env = pure true)
    (hi : SI X W tg iter it) (ok : BlkOk X.N X.env.scope scope own) (hv : vs = own.map (·.2)) (hgs : ∀ i ∈ g.slots, i ∈ vs) (hg : Blk X scope fun Y => PG Y tg (gT X.K g))
    (ht : Blk X scope fun Y => STs Y ifs ft) (he : Blk X scope fun Y => SE Y W0 elt fe) (hs : ∀ x, foldedSetIterable iter X.env x = pure x := by intro _; rfl) : SSt X W (.Assign [.Name y py] (.ListComp elt [⟨tg, iter, ifs, 0⟩] scope pos) spos) (setS i (compS it g vs ft fe)) := by
  subst hv
  exact ps_imp (ps_setLc (tt := tT X.K X.mg W0 ft) (te := tE X.K X.mg W0 fe) hc hN hy hyl hsw hi ok hg ht he hs) fun σ H B h => comp_at hgs (set_at h)
theorem ss_setComp2 (hc : X.calm = true) (hN : X.N.Nodup) (hy : X.N[i]? = some y) (hyl : X.env.scope.names.lookup y = some .local) (hsw : swapsWith (.ListComp elt [⟨tg, iter, ifs, 0⟩, ⟨tg1, iter1, ifs1, 0⟩] scope pos) (some (.Name y py)) spos.line X.env = pure true)
    (hi : SI X W tg iter it) (ok : BlkOk X.N X.env.scope scope own) (hv : vs = own.map (·.2)) (hv1 : ∀ i ∈ vs1, i ∈ own.map (·.2)) (hgs : ∀ i ∈ g.slots, i ∈ vs) (hgs1 : ∀ i ∈ gg.slots, i ∈ vs1)
    (hg : Blk X scope fun Y => PG Y tg (gT X.K g)) (ht : Blk X scope fun Y => STs Y ifs ft) (hi1 : Blk X scope fun Y => SI Y W0 tg1 iter1 it1) (hg1 : Blk X scope fun Y => PG Y tg1 (gT X.K gg)) (ht1 : Blk X scope fun Y => STs Y ifs1 ft1)
    (he : Blk X scope fun Y => SE Y W0 elt fe) (hs : ∀ x, foldedSetIterable iter X.env x = pure x := by intro _; rfl) (hs1 : ∀ env x, foldedSetIterable iter1 env x = pure x := by intro _ _; rfl) :
    SSt X W (.Assign [.Name y py] (.ListComp elt [⟨tg, iter, ifs, 0⟩, ⟨tg1, iter1, ifs1, 0⟩] scope pos) spos) (setS i (comp2S it g vs ft it1 gg vs1 ft1 fe)) := by
  subst hv
  exact ps_imp (ps_setLc2 (wi1 := tI X.K X.mg W0 it1) (tt := tT X.K X.mg W0 ft) (tt1 := tT X.K X.mg W0 ft1) (te := tE X.K X.mg W0 fe) hc hN hy hyl hsw hi ok hv1 hg ht hi1 hg1 ht1 he hs hs1) fun σ H B h => comp2_at hgs hgs1 (set_at h)
end
end E
/-! E12: calls of the text's own defs, on data. -/
namespace E
open PySem PySem.Spec PyProof.Rows L2

/-- how an argument goes over: as data; as a list that the callee may change; as a list that is lent (to be read alone) -/
inductive Pa where
  | sh (d : D)
  | io (c : Nat) (x : Cell)
  | lent (c : Nat) (ds : List D)
def Pa.r : Pa → Nat → R
  | .sh d, _ => .sh d
  | .io _ _, i => .own i
  | .lent _ ds, _ => .sh (.list ds)
def Pa.cell : Pa → Cell
  | .io _ x => x
  | _ => .dead
def Pa.ioc : Pa → Option Nat
  | .io c _ => some c
  | _ => none
def Pa.lc : Pa → Option Nat
  | .lent c _ => some c
  | _ => none
def pass1 (s : S) (b : Bool) : R → Option Pa
  | .sh d => some (.sh d)
  | .own c => match s.cellAt c with
    | .fz ds => some (.sh (.list ds))
    | .lv ds => some (if b = true then .io c (.lv ds) else .lent c ds)
    | .lk ds => some (if b = true then .io c (.lk ds) else .lent c ds)
    | .dead => none
def passL (s : S) : List Bool → List R → Option (List Pa)
  | [], [] => some []
  | b :: bs, r :: rs => match pass1 s b r with
    | some p => (passL s bs rs).map (p :: ·)
    | none => none
  | _, _ => none
def psOf (L : List Pa) : List R := L.mapIdx fun i p => p.r i
def ioOf (L : List Pa) : List Cell := L.map Pa.cell
def apart (L : List Pa) : Bool := decide (L.filterMap Pa.ioc).Nodup && (L.filterMap Pa.lc).all fun c => decide (c ∉ L.filterMap Pa.ioc)
def ent (n : Nat) (ps : List R) (io : List Cell) : S := ⟨ps.map some ++ List.replicate (n - ps.length) none, io ++ List.replicate n .dead, io.length⟩
mutual
def atomD : D → Bool
  | .none => true
  | .bool _ => true
  | .int _ => true
  | .str _ => true
  | .tuple ds => atomDs ds
  | _ => false
def atomDs : List D → Bool
  | [] => true
  | d :: ds => atomD d && atomDs ds
end
def Cell.list : Cell → List D
  | .lv ds => ds
  | .lk ds => ds
  | .fz ds => ds
  | .dead => []
def norm : Cell → Cell → Cell
  | .lv _, .lk ds => .lv ds
  | _, x => x
/-- the callee's ends of the lists that it was given -/
def wb : List Pa → Nat → S → S → S
  | [], _, _, s => s
  | .io c x :: L, i, s', s => wb L (i + 1) s' (s.put c (norm x (s'.cellAt i)))
  | _ :: L, i, s', s => wb L (i + 1) s' s
def ioFine (lent : Bool) : List Pa → Nat → S → Bool
  | [], _, _ => true
  | .io _ _ :: L, i, s' => (match s'.cellAt i with
    | .dead => false
    | .lv ds => !lent || atomDs ds
    | .lk ds => !lent || atomDs ds
    | .fz ds => !lent || atomDs ds) && ioFine lent L (i + 1) s'
  | _ :: L, i, s' => ioFine lent L (i + 1) s'
def lentIn (L : List Pa) : Bool := L.any fun p => p.lc.isSome
def retR (L : List Pa) (r : R) (s' s : S) : Res R :=
  if ioFine (lentIn L) L 0 s' = true then (match r with
    | .sh d => if (!lentIn L || atomD d) = true then .ok (.sh d) (wb L 0 s' s) else .bad
    | .own c => if c < L.length then (match L[c]? with
        | some (.io c' _) => .ok (.own c') (wb L 0 s' s)
        | _ => .bad) else (match s'.cellAt c with
        | .lv ds => if (!lentIn L || atomDs ds) = true then .ok (.own s.ce.length) ((wb L 0 s' s).push (.lv ds)) else .bad
        | .fz ds => if lentIn L = true then .bad else .ok (.sh (.list ds)) (wb L 0 s' s)
        | _ => .bad))
  else .bad
/-- a def: what it makes of its arguments -/
abbrev FT := List R → List Cell → Res R
def runF (n : Nat) (fb : SS) : FT := fun ps io => match fb (ent n ps io) with
  | .ok (.rt r) s => .ok r s
  | .ok .nx s => .ok (.sh .none) s
  | .exc x s => .exc x s
  | _ => .bad
def callD (md : List Bool) (F : FT) : List R → S → Res R := fun rs s => match passL s md rs with
  | some L => if apart L = true then (match F (psOf L) (ioOf L) with
    | .ok r s' => retR L r s' s
    | _ => .bad) else .bad
  | none => .bad
def startN (n : Nat) (vs : List V) : St := vs.map some ++ List.replicate (n - vs.length) none
section
variable {K : PySem.W.Frag} {mg : Str → Option Value} {W : WX} {w w' w₂ w0 w1 : Wd} {s s' s₂ s0 s1 : S} {H H' H₂ H0 H1 : Hp} {σ σ' σ0 : St} {p q m n : Nat} {L : List Pa} {Z Z' : Addr → Prop}
/-- the addresses that are lent -/
def LentA (w : Wd) (L : List Pa) (a : Addr) : Prop := ∃ (j c : Nat) (ds : List D), L[j]? = some (.lent c ds) ∧ a = w.ρ c
def Wd.go (w : Wd) (L : List Pa) : Wd := ⟨fun a => w.Z a ∨ LentA w L a, fun i => match L[i]? with
  | some (.io c _) => w.ρ c
  | _ => w.ρ i⟩
theorem go_io {i c : Nat} {x : Cell} (h : L[i]? = some (.io c x)) : (w.go L).ρ i = w.ρ c := by
  unfold Wd.go
  dsimp only
  rw [h]
/-- what an entry of L says of the caller's state -/
def PaOk (K : PySem.W.Frag) (w : Wd) (s : S) (H : Hp) (v : V) : Pa → Prop
  | .sh d => Den K w.Z H v d
  | .io c x => v = .ref (w.ρ c) ∧ s.ce[c]? = some x ∧ x.open?.isSome = true
  | .lent c ds => v = .ref (w.ρ c) ∧ (s.ce[c]? = some (.lv ds) ∨ s.ce[c]? = some (.lk ds))
theorem pass1_ok (hS : StR K w s σ H) {b : Bool} {r : R} {v : V} {pa : Pa} (hr : RR K w s.ce.length H v r) (h : pass1 s b r = some pa) : PaOk K w s H v pa := by
  cases r with
  | sh d =>
    cases h
    exact hr
  | own c =>
    obtain ⟨rfl, hc⟩ := hr
    unfold pass1 at h
    cases ec : s.cellAt c with
    | dead => simp only [ec] at h; cases h
    | fz ds =>
      simp only [ec] at h
      cases h
      obtain ⟨z, xs, q, d⟩ := hS.cl c _ (S.cellAt_some ec (by simp))
      exact .lst (.inl ⟨z, q⟩) d
    | lv ds =>
      simp only [ec] at h
      cases h
      split
      · exact ⟨rfl, S.cellAt_some ec (by simp), rfl⟩
      · exact ⟨rfl, .inl (S.cellAt_some ec (by simp))⟩
    | lk ds =>
      simp only [ec] at h
      cases h
      split
      · exact ⟨rfl, S.cellAt_some ec (by simp), rfl⟩
      · exact ⟨rfl, .inr (S.cellAt_some ec (by simp))⟩
theorem passL_ok (hS : StR K w s σ H) : ∀ {md : List Bool} {rs : List R} {vs : List V} {L : List Pa}, RRs K w s.ce.length H vs rs → passL s md rs = some L → L.length = vs.length ∧ ∀ (i : Nat) (pa : Pa), L[i]? = some pa → ∃ v, vs[i]? = some v ∧ PaOk K w s H v pa
  | [], [], _, _, hr, h => by
    cases hr
    cases h
    exact ⟨rfl, fun i pa e => by simp at e⟩
  | b :: bs, r :: rs, _, _, hr, h => by
    cases hr with
    | cons h1 h2 =>
      unfold passL at h
      cases e : pass1 s b r with
      | none => rw [e] at h; cases h
      | some pa =>
        rw [e] at h
        obtain ⟨L', e2, rfl⟩ := Option.map_eq_some_iff.mp h
        obtain ⟨l, q⟩ := passL_ok hS h2 e2
        refine ⟨by simp [l], fun i pa' e' => ?_⟩
        cases i with
        | zero =>
          have : pa = pa' := by simpa using e'
          subst this
          exact ⟨_, rfl, pass1_ok hS h1 e⟩
        | succ i => exact q i pa' (by simpa using e')
  | [], _ :: _, _, _, _, h => by cases h
  | _ :: _, [], _, _, _, h => by cases h
/-- L speaks of the state -/
structure LOk (K : PySem.W.Frag) (w : Wd) (s : S) (H : Hp) (L : List Pa) (vs : List V) : Prop where
  ln : L.length = vs.length
  at_ : ∀ (i : Nat) (pa : Pa), L[i]? = some pa → ∃ v, vs[i]? = some v ∧ PaOk K w s H v pa
  one : ∀ (i j c : Nat) (x y : Cell), L[i]? = some (.io c x) → L[j]? = some (.io c y) → i = j
  ap : ∀ (i j c : Nat) (x : Cell) (ds : List D), L[i]? = some (.io c x) → L[j]? = some (.lent c ds) → False
theorem nodup_filterMap {α β : Type} {f : α → Option β} : ∀ {l : List α}, (l.filterMap f).Nodup → ∀ (i j : Nat) (x y : α) (c : β), l[i]? = some x → l[j]? = some y → f x = some c → f y = some c → i = j
  | [], _, i, _, _, _, _, h, _, _, _ => by simp at h
  | a :: l, hn, 0, 0, _, _, _, _, _, _, _ => rfl
  | a :: l, hn, 0, j + 1, x, y, c, h1, h2, h3, h4 => by
    have e : a = x := by simpa using h1
    subst e
    rw [List.filterMap_cons_some h3] at hn
    exact absurd (List.mem_filterMap.mpr ⟨y, List.mem_of_getElem? (show l[j]? = some y by simpa using h2), h4⟩) (List.nodup_cons.mp hn).1
  | a :: l, hn, i + 1, 0, x, y, c, h1, h2, h3, h4 => by
    have e : a = y := by simpa using h2
    subst e
    rw [List.filterMap_cons_some h4] at hn
    exact absurd (List.mem_filterMap.mpr ⟨x, List.mem_of_getElem? (show l[i]? = some x by simpa using h1), h3⟩) (List.nodup_cons.mp hn).1
  | a :: l, hn, i + 1, j + 1, x, y, c, h1, h2, h3, h4 => by
    have : (l.filterMap f).Nodup := by
      cases e : f a with
      | none => rwa [List.filterMap_cons_none e] at hn
      | some b => rw [List.filterMap_cons_some e] at hn; exact (List.nodup_cons.mp hn).2
    exact congrArg Nat.succ (nodup_filterMap this i j x y c (by simpa using h1) (by simpa using h2) h3 h4)
theorem lok_of (hS : StR K w s σ H) {md : List Bool} {rs : List R} {vs : List V} (hr : RRs K w s.ce.length H vs rs) (h : passL s md rs = some L) (ha : apart L = true) : LOk K w s H L vs := by
  obtain ⟨l, q⟩ := passL_ok hS hr h
  unfold apart at ha
  obtain ⟨a1, a2⟩ := Bool.and_eq_true_iff.mp ha
  have a1 := of_decide_eq_true a1
  refine ⟨l, q, fun i j c x y e1 e2 => nodup_filterMap a1 i j _ _ c e1 e2 rfl rfl, fun i j c x ds e1 e2 => ?_⟩
  have := List.all_eq_true.mp a2 c (List.mem_filterMap.mpr ⟨_, List.mem_of_getElem? e2, rfl⟩)
  exact of_decide_eq_true this (List.mem_filterMap.mpr ⟨_, List.mem_of_getElem? e1, rfl⟩)
theorem LOk.cell {vs : List V} (hL : LOk K w s H L vs) {i c : Nat} {x : Cell} (e : L[i]? = some (.io c x)) : s.ce[c]? = some x ∧ x.open?.isSome = true := by
  obtain ⟨v, _, q⟩ := hL.at_ i _ e
  exact q.2
theorem LOk.lent {vs : List V} (hL : LOk K w s H L vs) {i c : Nat} {ds : List D} (e : L[i]? = some (.lent c ds)) : ∃ x, s.ce[c]? = some x ∧ x.open?.isSome = true ∧ (x = .lv ds ∨ x = .lk ds) := by
  obtain ⟨v, _, _, q⟩ := hL.at_ i _ e
  rcases q with q | q
  · exact ⟨_, q, rfl, .inl rfl⟩
  · exact ⟨_, q, rfl, .inr rfl⟩
theorem open_cl (hS : StR K w s σ H) {c : Nat} {x : Cell} (e : s.ce[c]? = some x) (o : x.open?.isSome = true) : ¬ w.Z (w.ρ c) ∧ ∃ xs, H (w.ρ c) = some (.lst xs) ∧ Dens K w.Z H xs x.list := by
  have q := hS.cl c x e
  cases x with
  | dead => cases o
  | fz ds => cases o
  | lv ds => exact q
  | lk ds => exact q
/-- an address of an io cell is not lent -/
theorem LOk.nl {vs : List V} (hS : StR K w s σ H) (hL : LOk K w s H L vs) {i c : Nat} {x : Cell} (e : L[i]? = some (.io c x)) : ¬ LentA w L (w.ρ c) := fun ⟨j, c', ds, e', ea⟩ => by
  obtain ⟨h1, h2⟩ := hL.cell e
  obtain ⟨y, h3, h4, _⟩ := hL.lent e'
  have := hS.inj c c' _ _ h1 h3 h2 h4 ea
  subst this
  exact hL.ap i j c x ds e e'
theorem lent_lst {vs : List V} (hS : StR K w s σ H) (hL : LOk K w s H L vs) {a : Addr} (h : LentA w L a) : ¬ w.Z a ∧ ∃ xs, H a = some (.lst xs) := by
  obtain ⟨j, c, ds, e, rfl⟩ := h
  obtain ⟨x, h1, h2, _⟩ := hL.lent e
  obtain ⟨a, xs, b, _⟩ := open_cl hS h1 h2
  exact ⟨a, xs, b⟩
theorem stay_go : Stay w.Z H (w.go L).Z H := ⟨fun _ h => .inl h, fun _ _ _ h => h, fun _ _ h => h, fun _ _ _ h => h⟩
theorem ent_get {ps : List R} {io : List Cell} {i : Nat} {x : Cell} (e : (ent n ps io).ce[i]? = some x) : (i < io.length ∧ io[i]? = some x) ∨ x = .dead := by
  have e : (io ++ List.replicate n .dead)[i]? = some x := e
  by_cases hi : i < io.length
  · rw [List.getElem?_append_left hi] at e
    exact .inl ⟨hi, e⟩
  · rw [List.getElem?_append_right (Nat.le_of_not_lt hi), List.getElem?_replicate] at e
    split at e
    · exact .inr (Option.some.inj e).symm
    · cases e
theorem io_get {i : Nat} {x : Cell} (e : (ioOf L)[i]? = some x) (o : x ≠ .dead) : ∃ c, L[i]? = some (.io c x) := by
  unfold ioOf at e
  rw [List.getElem?_map] at e
  cases q : L[i]? with
  | none => rw [q] at e; cases e
  | some pa =>
    rw [q] at e
    have e : pa.cell = x := Option.some.inj e
    subst e
    cases pa with
    | io c x => exact ⟨c, rfl⟩
    | sh d => exact absurd rfl o
    | lent c ds => exact absurd rfl o
theorem ps_len : (psOf L).length = L.length := by simp [psOf]
theorem io_len : (ioOf L).length = L.length := by simp [ioOf]
/-- the callee's first state -/
theorem ent_ok {vs : List V} (hS : StR K w s σ H) (hL : LOk K w s H L vs) (hn : L.length ≤ n) : StR K (w.go L) (ent n (psOf L) (ioOf L)) (startN n vs) H where
  cl := fun i x e => by
    rcases ent_get e with ⟨hi, e⟩ | rfl
    · by_cases o : x = .dead
      · subst o; trivial
      · obtain ⟨c, q⟩ := io_get e o
        obtain ⟨h1, h2⟩ := hL.cell q
        obtain ⟨h3, xs, h4, h5⟩ := open_cl hS h1 h2
        have nz : ¬ (w.go L).Z (w.ρ c) := fun z => z.elim h3 (hL.nl hS q)
        rw [go_io q]
        cases x with
        | dead => cases h2
        | fz ds => cases h2
        | lv ds => exact ⟨nz, xs, h4, Dens.stay stay_go h5⟩
        | lk ds => exact ⟨nz, xs, h4, Dens.stay stay_go h5⟩
    · trivial
  inj := fun i j x y e1 e2 o1 o2 e3 => by
    rcases ent_get e1 with ⟨hi, e1⟩ | rfl
    · rcases ent_get e2 with ⟨hj, e2⟩ | rfl
      · obtain ⟨c, q⟩ := io_get e1 (fun z => by subst z; cases o1)
        obtain ⟨c', q'⟩ := io_get e2 (fun z => by subst z; cases o2)
        rw [go_io q, go_io q'] at e3
        obtain ⟨h1, h2⟩ := hL.cell q
        obtain ⟨h1', h2'⟩ := hL.cell q'
        have := hS.inj c c' _ _ h1 h1' h2 h2' e3
        subst this
        exact hL.one i j c _ _ q q'
      · cases o2
    · cases o1
  sl := fun i r e => by
    have e : ((psOf L).map some ++ List.replicate (n - (psOf L).length) none)[i]? = some (some r) := e
    by_cases hi : i < L.length
    · rw [List.getElem?_append_left (by simpa [ps_len] using hi), List.getElem?_map] at e
      have er : (psOf L)[i]? = some r := by
        cases q : (psOf L)[i]? with
        | none => rw [q] at e; cases e
        | some r' => rw [q] at e; exact congrArg some (Option.some.inj (Option.some.inj e))
      unfold psOf at er
      rw [List.getElem?_mapIdx] at er
      cases q : L[i]? with
      | none => rw [q] at er; cases er
      | some pa =>
        rw [q] at er
        have er : pa.r i = r := Option.some.inj er
        subst er
        obtain ⟨v, hv, hp⟩ := hL.at_ i pa q
        refine ⟨v, ?_, ?_⟩
        · unfold startN
          rw [List.getElem?_append_left (by rw [List.length_map, ← hL.ln]; exact hi), List.getElem?_map, hv]
          rfl
        · cases pa with
          | sh d => exact Den.stay stay_go hp
          | io c x =>
            obtain ⟨rfl, _⟩ := hp
            exact ⟨by rw [go_io q], by show i < (ioOf L ++ List.replicate n Cell.dead).length; rw [List.length_append, io_len]; omega⟩
          | lent c ds =>
            obtain ⟨x, h1, h2, h3⟩ := hL.lent q
            obtain ⟨h4, xs, h5, h6⟩ := open_cl hS h1 h2
            obtain ⟨rfl, _⟩ := hp
            have hl : x.list = ds := by rcases h3 with rfl | rfl <;> rfl
            rw [hl] at h6
            exact .lst (.inl ⟨.inr ⟨i, c, ds, q, rfl⟩, h5⟩) (Dens.stay stay_go h6)
    · rw [List.getElem?_append_right (by simpa [ps_len] using Nat.le_of_not_lt hi), List.getElem?_replicate] at e
      split at e <;> cases e
  sn := by
    show ((psOf L).map some ++ List.replicate (n - (psOf L).length) none).length ≤ (startN n vs).length
    unfold startN
    simp only [List.length_append, List.length_map, List.length_replicate, ps_len, hL.ln]
    exact Nat.le_refl _
  zt := fun a z => by
    rcases z with z | z
    · exact hS.zt a z
    · exact (lent_lst hS hL z).2
  sb := fun i c e => by
    have e : ((psOf L).map some ++ List.replicate (n - (psOf L).length) none)[i]? = some (some (.own c)) := e
    show c < (ioOf L).length + ((psOf L).map some ++ List.replicate (n - (psOf L).length) none).length
    by_cases hi : i < L.length
    · rw [List.getElem?_append_left (by simpa [ps_len] using hi), List.getElem?_map] at e
      have er : (psOf L)[i]? = some (.own c) := by
        cases q : (psOf L)[i]? with
        | none => rw [q] at e; cases e
        | some r' => rw [q] at e; exact congrArg some (Option.some.inj (Option.some.inj e))
      unfold psOf at er
      rw [List.getElem?_mapIdx] at er
      cases q : L[i]? with
      | none => rw [q] at er; cases er
      | some pa =>
        rw [q] at er
        have er : pa.r i = .own c := Option.some.inj er
        cases pa with
        | sh d => cases er
        | io c' x => cases er; rw [io_len]; omega
        | lent c' ds => cases er
    · rw [List.getElem?_append_right (by simpa [ps_len] using Nat.le_of_not_lt hi), List.getElem?_replicate] at e
      split at e <;> cases e
  bs := by
    show (ioOf L).length + ((psOf L).map some ++ List.replicate (n - (psOf L).length) none).length ≤ (ioOf L ++ List.replicate n Cell.dead).length
    simp only [List.length_append, List.length_map, List.length_replicate, ps_len, io_len]
    omega
  lb := fun i ds e => by
    rcases ent_get e with ⟨hi, _⟩ | z
    · show i < (ioOf L).length + _
      omega
    · cases z
/-! back in the caller -/
theorem wb_len : ∀ {L : List Pa} {i : Nat} {s : S}, (wb L i s' s).ce.length = s.ce.length
  | [], _, _ => rfl
  | .io c x :: L, i, s => by unfold wb; rw [wb_len, put_len]
  | .sh d :: L, i, s => by unfold wb; exact wb_len
  | .lent c ds :: L, i, s => by unfold wb; exact wb_len
theorem wb_sl : ∀ {L : List Pa} {i : Nat} {s : S}, (wb L i s' s).sl = s.sl ∧ (wb L i s' s).np = s.np
  | [], _, _ => ⟨rfl, rfl⟩
  | .io c x :: L, i, s => by unfold wb; exact wb_sl (L := L)
  | .sh d :: L, i, s => by unfold wb; exact wb_sl
  | .lent c ds :: L, i, s => by unfold wb; exact wb_sl
theorem wb_get : ∀ {L : List Pa} {i : Nat} {s : S} {c : Nat} {y : Cell}, (wb L i s' s).ce[c]? = some y → (∃ (j : Nat) (x : Cell), L[j]? = some (.io c x) ∧ y = norm x (s'.cellAt (i + j))) ∨ ((∀ (j : Nat) (x : Cell), L[j]? ≠ some (.io c x)) ∧ s.ce[c]? = some y)
  | [], i, s, c, y, e => .inr ⟨fun j x z => by simp at z, e⟩
  | .io c0 x0 :: L, i, s, c, y, e => by
    unfold wb at e
    rcases wb_get e with ⟨j, x, q, rfl⟩ | ⟨q, e⟩
    · refine .inl ⟨j + 1, x, by simpa using q, ?_⟩
      rw [show i + 1 + j = i + (j + 1) by omega]
    · rcases put_get e with ⟨rfl, rfl, _⟩ | ⟨hne, e⟩
      · exact .inl ⟨0, x0, rfl, rfl⟩
      · refine .inr ⟨fun j x z => ?_, e⟩
        cases j with
        | zero =>
          have : Pa.io c0 x0 = .io c x := by simpa using z
          cases this
          exact hne rfl
        | succ j => exact q j x (by simpa using z)
  | .sh d :: L, i, s, c, y, e => by
    unfold wb at e
    rcases wb_get e with ⟨j, x, q, rfl⟩ | ⟨q, e⟩
    · refine .inl ⟨j + 1, x, by simpa using q, ?_⟩
      rw [show i + 1 + j = i + (j + 1) by omega]
    · refine .inr ⟨fun j x z => ?_, e⟩
      cases j with
      | zero => simp at z
      | succ j => exact q j x (by simpa using z)
  | .lent d ds :: L, i, s, c, y, e => by
    unfold wb at e
    rcases wb_get e with ⟨j, x, q, rfl⟩ | ⟨q, e⟩
    · refine .inl ⟨j + 1, x, by simpa using q, ?_⟩
      rw [show i + 1 + j = i + (j + 1) by omega]
    · refine .inr ⟨fun j x z => ?_, e⟩
      cases j with
      | zero => simp at z
      | succ j => exact q j x (by simpa using z)
theorem fine_at {b : Bool} : ∀ {L : List Pa} {i : Nat}, ioFine b L i s' = true → ∀ (j c : Nat) (x : Cell), L[j]? = some (.io c x) → s'.cellAt (i + j) ≠ .dead ∧ (b = false ∨ atomDs (s'.cellAt (i + j)).list = true)
  | [], _, _, j, _, _, e => by simp at e
  | pa :: L, i, h, 0, c, x, e => by
    have e : pa = .io c x := by simpa using e
    subst e
    unfold ioFine at h
    obtain ⟨h1, _⟩ := Bool.and_eq_true_iff.mp h
    rw [Nat.add_zero]
    cases q : s'.cellAt i with
    | dead => rw [q] at h1; cases h1
    | lv ds => rw [q] at h1; exact ⟨by simp, by cases b <;> simp_all [Cell.list]⟩
    | lk ds => rw [q] at h1; exact ⟨by simp, by cases b <;> simp_all [Cell.list]⟩
    | fz ds => rw [q] at h1; exact ⟨by simp, by cases b <;> simp_all [Cell.list]⟩
  | pa :: L, i, h, j + 1, c, x, e => by
    have h2 : ioFine b L (i + 1) s' = true := by
      cases pa with
      | io c x => unfold ioFine at h; exact (Bool.and_eq_true_iff.mp h).2
      | sh d => unfold ioFine at h; exact h
      | lent c ds => unfold ioFine at h; exact h
    rw [show i + (j + 1) = i + 1 + j by omega]
    exact fine_at h2 j c x (by simpa using e)
mutual
theorem Den.atom : ∀ {v : V} {d : D}, Den K Z H v d → atomD d = true → Den K Z' H v d
  | _, _, .non, _ => .non
  | _, _, .bl b, _ => .bl b
  | _, _, .int i, _ => .int i
  | _, _, .str x, _ => .str x
  | _, _, .tup h ha, q => .tup h (Dens.atom ha (by unfold atomD at q; exact q))
  | _, _, .lst h ha, q => by unfold atomD at q; cases q
theorem Dens.atom : ∀ {vs : List V} {ds : List D}, Dens K Z H vs ds → atomDs ds = true → Dens K Z' H vs ds
  | _, _, .nil, _ => .nil
  | _, _, .cons h t, q => by
    unfold atomDs at q
    obtain ⟨q1, q2⟩ := Bool.and_eq_true_iff.mp q
    exact .cons (Den.atom h q1) (Dens.atom t q2)
end
/-- the caller's world behind the call -/
def Wd.ret (w w' : Wd) (L : List Pa) : Wd := ⟨fun a => w'.Z a ∧ ¬ LentA w L a, w.ρ⟩
theorem nolent (h : lentIn L = false) (a : Addr) : ¬ LentA w L a := fun ⟨j, c, ds, e, _⟩ => by
  unfold lentIn at h
  have := List.any_eq_false.mp h _ (List.mem_of_getElem? e)
  exact this rfl
theorem dens_ret {xs : List V} {ds : List D} (h : lentIn L = false ∨ atomDs ds = true) (d : Dens K w'.Z H xs ds) : Dens K (w.ret w' L).Z H xs ds := by
  rcases h with h | h
  · exact d.stay ⟨fun a z => ⟨z, nolent h a⟩, fun _ _ _ q => q, fun _ _ q => q, fun _ _ _ q => q⟩
  · exact d.atom h
theorem den_ret {v : V} {ds : D} (h : lentIn L = false ∨ atomD ds = true) (d : Den K w'.Z H v ds) : Den K (w.ret w' L).Z H v ds := by
  rcases h with h | h
  · exact d.stay ⟨fun a z => ⟨z, nolent h a⟩, fun _ _ _ q => q, fun _ _ q => q, fun _ _ _ q => q⟩
  · exact d.atom h
/-- what the callee's end says of the caller's addresses -/
structure Back (K : PySem.W.Frag) (w : Wd) (s : S) (H : Hp) (w' : Wd) (s' : S) (H' : Hp) (L : List Pa) : Prop where
  keep : ∀ a o, H a = some o → (∀ (j c : Nat) (ds : List D), L[j]? = some (.io c (.lv ds)) → a ≠ w.ρ c) → H' a = some o
  zn : ∀ a, w'.Z a → (w.Z a ∨ LentA w L a) ∨ H a = none ∨ ∃ (j c : Nat) (ds : List D), L[j]? = some (.io c (.lv ds)) ∧ a = w.ρ c
  z : ∀ a, w.Z a ∨ LentA w L a → w'.Z a
  ρ : ∀ (j c : Nat) (x : Cell), L[j]? = some (.io c x) → w'.ρ j = w.ρ c
  new : ∀ (c : Nat) (ds : List D), L.length ≤ c → s'.ce[c]? = some (.lv ds) → H (w'.ρ c) = none
  lk : ∀ (j c : Nat) (ds : List D), L[j]? = some (.io c (.lk ds)) → s'.ce[j]? = some (.lk ds)
theorem live_ent {a : Addr} (h : Live (w.go L) (ent n (psOf L) (ioOf L)) a) : ∃ (j c : Nat) (ds : List D), L[j]? = some (.io c (.lv ds)) ∧ a = w.ρ c := by
  obtain ⟨i, ds, e, rfl⟩ := h
  rcases ent_get e with ⟨_, e⟩ | z
  · obtain ⟨c, q⟩ := io_get e (by simp)
    exact ⟨i, c, ds, q, go_io q⟩
  · cases z
theorem back_of {vs : List V} (hS : StR K w s σ H) (hL : LOk K w s H L vs) (h : StR K w' s' σ' H') (e : Ext L.length (w.go L) (ent n (psOf L) (ioOf L)) H w' s' H') (hf : ∀ (j c : Nat) (x : Cell), L[j]? = some (.io c x) → s'.cellAt j ≠ .dead) : Back K w s H w' s' H' L := by
  have pr : ∀ (j c : Nat) (x : Cell), L[j]? = some (.io c x) → w'.ρ j = w.ρ c := fun j c x q => by
    rw [e.pr j (List.getElem?_eq_some_iff.mp q).1, go_io q]
  refine ⟨fun a o q hn => e.k a o q fun l => ?_, fun a z => ?_, fun a z => e.z a z, pr, fun c ds hc q => ?_, fun j c ds q => ?_⟩
  · obtain ⟨j, c, ds, q1, q2⟩ := live_ent l
    exact hn j c ds q1 q2
  · rcases e.zn a z with z | z | z
    · exact .inl z
    · exact .inr (.inl z)
    · exact .inr (.inr (live_ent z))
  · rcases e.lz _ ⟨c, ds, q, rfl⟩ with z | z
    · obtain ⟨j, c', ds', q1, q2⟩ := live_ent z
      have hj := (List.getElem?_eq_some_iff.mp q1).1
      have r := pr j c' _ q1
      cases ej : s'.cellAt j with
      | dead => exact absurd ej (hf j c' _ q1)
      | fz es =>
        obtain ⟨hz, _⟩ := h.cl j _ (S.cellAt_some ej (by simp))
        obtain ⟨nz, _⟩ := h.cl c _ q
        rw [r, ← q2] at hz
        exact absurd hz nz
      | lv es =>
        have := h.inj j c _ _ (S.cellAt_some ej (by simp)) q rfl rfl (by rw [r, q2])
        omega
      | lk es =>
        have := h.inj j c _ _ (S.cellAt_some ej (by simp)) q rfl rfl (by rw [r, q2])
        omega
    · exact z
  · refine (e.lk j ds ?_).1
    show (ioOf L ++ List.replicate n Cell.dead)[j]? = _
    rw [List.getElem?_append_left (by rw [io_len]; exact (List.getElem?_eq_some_iff.mp q).1)]
    unfold ioOf
    rw [List.getElem?_map, q]
    rfl
theorem ret_ok {vs : List V} (hS : StR K w s σ H) (hL : LOk K w s H L vs) (h : StR K w' s' σ' H') (B : Back K w s H w' s' H' L) (hf : ∀ (j c : Nat) (x : Cell), L[j]? = some (.io c x) → s'.cellAt j ≠ .dead ∧ (lentIn L = false ∨ atomDs (s'.cellAt j).list = true)) :
    StR K (w.ret w' L) (wb L 0 s' s) σ H' ∧ Ext s.ce.length w s H (w.ret w' L) (wb L 0 s' s) H' := by
  -- an open cell of the caller that went over or not
  have nlv : ∀ {c : Nat} {x : Cell}, s.ce[c]? = some x → x.open?.isSome = true → (∀ (j : Nat) (y : Cell), L[j]? ≠ some (.io c y)) → ∀ (j c' : Nat) (ds : List D), L[j]? = some (.io c' (.lv ds)) → w.ρ c ≠ w.ρ c' := fun {c x} e o hn j c' ds q z => by
    obtain ⟨h1, h2⟩ := hL.cell q
    have := hS.inj c c' _ _ e h1 o h2 z
    subst this
    exact hn j _ q
  have nz : ∀ {a : Addr} {xs : List V}, w.Z a → H a = some (.lst xs) → ∀ (j c' : Nat) (ds : List D), L[j]? = some (.io c' (.lv ds)) → a ≠ w.ρ c' := fun {a xs} z hl j c' ds q e => by
    obtain ⟨h1, h2⟩ := hL.cell q
    obtain ⟨h3, _⟩ := open_cl hS h1 h2
    exact h3 (e ▸ z)
  have zk : ∀ a, w.Z a → (w.ret w' L).Z a := fun a z => ⟨B.z a (.inl z), fun l => (lent_lst hS hL l).1 z⟩
  have notl : ∀ {a : Addr} {o : HO}, H a = some o → (∀ xs, o ≠ .lst xs) → H' a = some o := fun {a o} q hn => B.keep a o q fun j c' ds q' e => by
    obtain ⟨h1, h2⟩ := hL.cell q'
    obtain ⟨_, xs, h4, _⟩ := open_cl hS h1 h2
    rw [← e, q] at h4
    cases h4
    exact hn xs rfl
  have y : Stay w.Z H (w.ret w' L).Z H' := ⟨zk, fun a xs z q => B.keep a _ q (nz z q), fun a xs q => notl q (by simp), fun a o u q => notl q (by simp)⟩
  have zo : ∀ {c : Nat} {x : Cell}, s.ce[c]? = some x → x.open?.isSome = true → (∀ (j : Nat) (y : Cell), L[j]? ≠ some (.io c y)) → ¬ (w.ret w' L).Z (w.ρ c) := fun {c x} e o hn ⟨z1, z2⟩ => by
    obtain ⟨h1, xs, h2, _⟩ := open_cl hS e o
    rcases B.zn _ z1 with (z | z) | z | ⟨j, c', ds, q, z⟩
    · exact h1 z
    · exact z2 z
    · rw [h2] at z; cases z
    · exact nlv e o hn j c' ds q z
  have ioS : ∀ {j c : Nat} {x : Cell}, L[j]? = some (.io c x) → s'.ce[j]? = some (s'.cellAt j) := fun {j c x} q => S.cellAt_some rfl (hf j c x q).1
  have cl : ∀ (i : Nat) (x : Cell), (wb L 0 s' s).ce[i]? = some x → CellR K (w.ret w' L).Z H' (w.ρ i) x := fun i x e => by
    rcases wb_get e with ⟨j, x0, q, rfl⟩ | ⟨hn, e⟩
    · rw [Nat.zero_add]
      have q1 := h.cl j _ (ioS q)
      obtain ⟨f1, f2⟩ := hf j i x0 q
      rw [B.ρ j i x0 q] at q1
      have nl := hL.nl hS q
      cases ec : s'.cellAt j with
      | dead => exact absurd ec f1
      | lv ds =>
        rw [ec] at q1 f2
        obtain ⟨a, xs, b, d⟩ := q1
        have z : CellR K (w.ret w' L).Z H' (w.ρ i) (.lv ds) := ⟨fun z => a z.1, xs, b, dens_ret f2 d⟩
        cases x0 <;> exact z
      | lk ds =>
        rw [ec] at q1 f2
        obtain ⟨a, xs, b, d⟩ := q1
        have z : CellR K (w.ret w' L).Z H' (w.ρ i) (.lv ds) := ⟨fun z => a z.1, xs, b, dens_ret f2 d⟩
        cases x0 <;> exact z
      | fz ds =>
        rw [ec] at q1 f2
        obtain ⟨a, xs, b, d⟩ := q1
        have z : CellR K (w.ret w' L).Z H' (w.ρ i) (.fz ds) := ⟨⟨a, nl⟩, xs, b, dens_ret f2 d⟩
        cases x0 <;> exact z
    · have q1 := hS.cl i x e
      cases x with
      | dead => trivial
      | lv ds => obtain ⟨a, xs, b, d⟩ := q1; exact ⟨zo e rfl hn, xs, B.keep _ _ b (nlv e rfl hn), d.stay y⟩
      | lk ds => obtain ⟨a, xs, b, d⟩ := q1; exact ⟨zo e rfl hn, xs, B.keep _ _ b (nlv e rfl hn), d.stay y⟩
      | fz ds => obtain ⟨a, xs, b, d⟩ := q1; exact ⟨zk _ a, xs, B.keep _ _ b (nz a b), d.stay y⟩
  have op : ∀ (i : Nat) (x : Cell), (wb L 0 s' s).ce[i]? = some x → x.open?.isSome = true → ∃ x', s.ce[i]? = some x' ∧ x'.open?.isSome = true := fun i x e o => by
    rcases wb_get e with ⟨j, x0, q, rfl⟩ | ⟨hn, e⟩
    · exact ⟨x0, (hL.cell q).1, (hL.cell q).2⟩
    · exact ⟨x, e, o⟩
  refine ⟨⟨cl, fun i j x y' e1 e2 o1 o2 e3 => ?_, fun i r e => ?_, by rw [wb_sl.1]; exact hS.sn, fun a z => ?_, fun i c e => ?_, by rw [wb_sl.1, wb_sl.2, wb_len]; exact hS.bs, fun i ds e => ?_⟩,
    ⟨zk, fun a z => ?_, fun a o q hl => B.keep a o q fun j c ds q1 q2 => hl ⟨c, ds, (hL.cell q1).1, q2.symm⟩, fun a ⟨i, ds, e, ea⟩ => ?_, fun _ _ => rfl, by rw [wb_len]; exact Nat.le_refl _, fun i ds e => ⟨?_, rfl⟩, wb_sl.2, by rw [wb_sl.1]⟩⟩
  · obtain ⟨x', a1, b1⟩ := op i x e1 o1
    obtain ⟨y'', a2, b2⟩ := op j y' e2 o2
    exact hS.inj i j _ _ a1 a2 b1 b2 e3
  · rw [wb_sl.1] at e
    obtain ⟨v, e1, e2⟩ := hS.sl i r e
    refine ⟨v, e1, ?_⟩
    cases r with
    | sh d => exact Den.stay y e2
    | own c => exact ⟨e2.1, by rw [wb_len]; exact e2.2⟩
  · exact h.zt a z.1
  · rw [wb_sl.1] at e
    rw [wb_sl.1, wb_sl.2]
    exact hS.sb i c e
  · rw [wb_sl.1, wb_sl.2]
    rcases wb_get e with ⟨j, x0, q, e⟩ | ⟨_, e⟩
    · rw [Nat.zero_add] at e
      cases x0 with
      | lk es => exact hS.lb i es (hL.cell q).1
      | lv es => cases ec : s'.cellAt j <;> rw [ec] at e <;> cases e
      | dead => exact absurd (hL.cell q).2 (by simp [Cell.open?])
      | fz es => exact absurd (hL.cell q).2 (by simp [Cell.open?])
    · exact hS.lb i ds e
  · rcases B.zn a z.1 with (z1 | z1) | z1 | ⟨j, c', ds, q, z1⟩
    · exact .inl z1
    · exact absurd z1 z.2
    · exact .inr (.inl z1)
    · exact .inr (.inr ⟨c', ds, (hL.cell q).1, z1.symm⟩)
  · have ea : w.ρ i = a := ea
    rcases wb_get e with ⟨j, x0, q, e⟩ | ⟨_, e⟩
    · rw [Nat.zero_add] at e
      cases x0 with
      | lv es => exact .inl ⟨i, es, (hL.cell q).1, ea⟩
      | lk es =>
        have := B.lk j i es q
        unfold S.cellAt at e
        rw [this] at e
        cases e
      | dead => exact absurd (hL.cell q).2 (by simp [Cell.open?])
      | fz es => exact absurd (hL.cell q).2 (by simp [Cell.open?])
    · exact .inl ⟨i, ds, e, ea⟩
  · have hi : i < (wb L 0 s' s).ce.length := by rw [wb_len]; exact (List.getElem?_eq_some_iff.mp e).1
    have e2 := List.getElem?_eq_getElem hi
    rcases wb_get e2 with ⟨j, x0, q, e3⟩ | ⟨_, e3⟩
    · rw [Nat.zero_add] at e3
      have := (hL.cell q).1
      rw [e] at this
      cases this
      have := B.lk j i ds q
      unfold S.cellAt at e3
      rw [this] at e3
      rw [e2, e3]
      rfl
    · rw [e] at e3
      rw [e2]
      exact e3.symm
end
end E
/-! E13: what comes back of a call; the rules of calls; the law's own def. -/
namespace E
open PySem PySem.Spec PyProof.Rows L2

section
variable {K : PySem.W.Frag} {mg : Str → Option Value} {W : WX} {w w' w₂ w0 w1 : Wd} {s s' s₂ s0 s1 : S} {H H' H₂ H0 H1 : Hp} {σ σ' σ0 : St} {p q m n : Nat} {L : List Pa} {Z Z' : Addr → Prop}
/-- a list that is there becomes a cell's -/
theorem StR.adopt (h : StR K w s σ H') {a : Addr} {xs : List V} {ds : List D} (ha : H' a = some (.lst xs)) (hz : ¬ w.Z a) (hd : Dens K w.Z H' xs ds) (hn : ∀ (i : Nat) (x : Cell), s.ce[i]? = some x → x.open?.isSome = true → w.ρ i ≠ a) :
    StR K (w.at s.ce.length a) (s.push (.lv ds)) σ H' := by
  have same : ∀ i, i < s.ce.length → (w.at s.ce.length a).ρ i = w.ρ i := fun i hi => if_neg (Nat.ne_of_lt hi)
  have last : (w.at s.ce.length a).ρ s.ce.length = a := if_pos rfl
  refine ⟨fun i c e => ?_, fun i j x y e1 e2 o1 o2 e3 => ?_, fun i r e => ?_, h.sn, h.zt, h.sb, by rw [push_len]; have := h.bs; show s.np + s.sl.length ≤ _; omega, fun i ds' e => ?_⟩
  · rcases push_get e with ⟨hi, e'⟩ | ⟨rfl, rfl⟩
    · rw [same i hi]
      exact h.cl i c e'
    · rw [last]
      exact ⟨hz, xs, ha, hd⟩
  · rcases push_get e1 with ⟨hi, e1'⟩ | ⟨rfl, _⟩
    · rcases push_get e2 with ⟨hj, e2'⟩ | ⟨rfl, _⟩
      · rw [same i hi, same j hj] at e3
        exact h.inj i j _ _ e1' e2' o1 o2 e3
      · rw [same i hi, last] at e3
        exact absurd e3 (hn i _ e1' o1)
    · rcases push_get e2 with ⟨hj, e2'⟩ | ⟨rfl, _⟩
      · rw [same j hj, last] at e3
        exact absurd e3.symm (hn j _ e2' o2)
      · rfl
  · obtain ⟨v, e1, e2⟩ := h.sl i r e
    refine ⟨v, e1, ?_⟩
    cases r with
    | sh d => exact e2
    | own c => exact ⟨by rw [same c e2.2]; exact e2.1, by rw [push_len]; exact Nat.lt_succ_of_lt e2.2⟩
  · rcases push_get e with ⟨_, e'⟩ | ⟨_, z⟩
    · exact h.lb i ds' e'
    · cases z
theorem Ext.adopt (e : Ext p w s H w' s' H') (hp : p ≤ s'.ce.length) {a : Addr} {ds : List D} (hn : H a = none) (hl : ∀ (i : Nat) (ds : List D), s.ce[i]? = some (.lk ds) → i < s'.ce.length) : Ext p w s H (w'.at s'.ce.length a) (s'.push (.lv ds)) H' where
  z := e.z
  zn := e.zn
  k := e.k
  lz := fun b ⟨i, ds', q, eb⟩ => by
    rcases push_get q with ⟨hi, q'⟩ | ⟨rfl, _⟩
    · exact e.lz b ⟨i, ds', q', by rw [← eb]; exact (if_neg (Nat.ne_of_lt hi)).symm⟩
    · have : a = b := by rw [← eb]; exact (if_pos rfl).symm
      exact .inr (this ▸ hn)
  pr := fun i hi => (if_neg (Nat.ne_of_lt (Nat.lt_of_lt_of_le hi hp))).trans (e.pr i hi)
  ln := by rw [push_len]; omega
  lk := fun i ds' q => by
    obtain ⟨h1, h2⟩ := e.lk i ds' q
    have hi := hl i ds' q
    exact ⟨(List.getElem?_append_left hi).trans h1, (if_neg (Nat.ne_of_lt hi)).trans h2⟩
  nq := e.nq
  sq := e.sq
theorem retR_ok {vs : List V} {r r2 : R} {s2 : S} {v : V} (hS : StR K w s σ H) (hL : LOk K w s H L vs) (h : StR K w' s' σ' H') (e : Ext L.length (w.go L) (ent n (psOf L) (ioOf L)) H w' s' H') (hv : RR K w' s'.ce.length H' v r) (hq : retR L r s' s = .ok r2 s2) :
    ∃ w2, StR K w2 s2 σ H' ∧ Ext s.ce.length w s H w2 s2 H' ∧ RR K w2 s2.ce.length H' v r2 := by
  unfold retR at hq
  split at hq
  · rename_i hf
    have hf : ∀ (j c : Nat) (x : Cell), L[j]? = some (.io c x) → s'.cellAt j ≠ .dead ∧ (lentIn L = false ∨ atomDs (s'.cellAt j).list = true) := fun j c x q => by
      have := fine_at hf j c x q
      rwa [Nat.zero_add] at this
    have B := back_of hS hL h e fun j c x q => (hf j c x q).1
    obtain ⟨g1, g2⟩ := ret_ok hS hL h B hf
    have ck : ∀ {b : Bool}, (!lentIn L || b) = true → lentIn L = false ∨ b = true := fun {b} h => by
      cases q : lentIn L
      · exact .inl rfl
      · rw [q] at h; exact .inr h
    cases r with
    | sh d =>
      dsimp only at hq
      split at hq
      · rename_i hc
        cases hq
        exact ⟨_, g1, g2, den_ret (ck hc) hv⟩
      · cases hq
    | own c =>
      obtain ⟨rfl, hc⟩ := hv
      dsimp only at hq
      split at hq
      · rename_i hlt
        split at hq
        · rename_i c' x q
          cases hq
          refine ⟨_, g1, g2, ?_, ?_⟩
          · rw [B.ρ c _ _ q]
            rfl
          · rw [wb_len]
            exact (List.getElem?_eq_some_iff.mp (hL.cell q).1).1
        · cases hq
      · rename_i hlt
        have hge : L.length ≤ c := Nat.le_of_not_lt hlt
        cases ec : s'.cellAt c with
        | dead => simp only [ec] at hq; cases hq
        | lk ds => simp only [ec] at hq; cases hq
        | fz ds =>
          simp only [ec] at hq
          split at hq
          · cases hq
          · rename_i hl
            cases hq
            obtain ⟨z, xs, l, d⟩ := h.cl c _ (S.cellAt_some ec (by simp))
            have hl : lentIn L = false := by simpa using hl
            exact ⟨_, g1, g2, .lst (.inl ⟨⟨z, nolent hl _⟩, l⟩) (dens_ret (.inl hl) d)⟩
        | lv ds =>
          simp only [ec] at hq
          split at hq
          · rename_i hck
            cases hq
            have qc := S.cellAt_some ec (by simp)
            obtain ⟨z, xs, l, d⟩ := h.cl c _ qc
            have hn := B.new c ds hge qc
            refine ⟨(w.ret w' L).at (wb L 0 s' s).ce.length (w'.ρ c), g1.adopt l (fun q => z q.1) (dens_ret (ck hck) d) (fun i x ei o ea => ?_), g2.adopt (by rw [wb_len]; exact Nat.le_refl _) hn (fun i ds q => by rw [wb_len]; exact (List.getElem?_eq_some_iff.mp q).1), ?_⟩
            · have ea : w.ρ i = w'.ρ c := ea
              have : ∃ x', s.ce[i]? = some x' ∧ x'.open?.isSome = true := by
                rcases wb_get ei with ⟨j, x0, q, rfl⟩ | ⟨_, ei⟩
                · exact ⟨x0, hL.cell q⟩
                · exact ⟨x, ei, o⟩
              obtain ⟨x', b1, b2⟩ := this
              obtain ⟨_, ys, b3, _⟩ := open_cl hS b1 b2
              rw [ea, hn] at b3
              cases b3
            · refine ⟨?_, ?_⟩
              · have : ((w.ret w' L).at (wb L 0 s' s).ce.length (w'.ρ c)).ρ (wb L 0 s' s).ce.length = w'.ρ c := if_pos rfl
                rw [wb_len] at this ⊢
                rw [this]
              · rw [push_len, wb_len]
                exact Nat.lt_succ_self _
          · cases hq
  · cases hq
theorem retR_noexc {r : R} {x : Ex} (h : retR L r s' s = .exc x s₂) : False := by
  unfold retR at h
  (repeat (split at h <;> try cases h))
end

/-! ### the rules -/
/-- what a def's promise asks at its entry -/
def Calls (K : PySem.W.Frag) (n : Nat) (F : FT) (vs : List V) (H : Hp) (Q : VK) : Prop := ∃ (w : Wd) (ps : List R) (io : List Cell), io.length = vs.length ∧ StR K w (ent n ps io) (startN n vs) H ∧
  match F ps io with
  | .ok r s' => ∀ w' σ' H' v, StR K w' s' σ' H' → Ext io.length w (ent n ps io) H w' s' H' → RR K w' s'.ce.length H' v r → Q v H'
  | _ => False
/-- a def of the text keeps its promise -/
structure FnG (P : Program) (w : World) (K : PySem.W.Frag) (mg : Str → Option Value) (base : Heap) (k : Nat) (f : Addr) (fd : FuncData) (ps : List Str) (n : Nat) (F : FT) : Prop where
  run : ∀ (A : Around) (outer : List Env) (z : Shared) (H : Hp) (args : Args) (us : List Value) (vs : List V) (Q : VK), Room k A → A.guards = some [] → Env0 P w K mg base A outer z H → BindsTo z fd args (ps.zip us) → Vals vs us → vs.length = ps.length → Calls K n F vs H Q →
    codeAny (model P w) A (.call (.ref f) args) (CR CX0 outer P w H z Q L2.E0) z
theorem calls_of {K : PySem.W.Frag} {w : Wd} {s : S} {σ : St} {H : Hp} {L : List Pa} {vs : List V} {n : Nat} {F : FT} {Q : VK} (hS : StR K w s σ H) (hL : LOk K w s H L vs) (hn : L.length ≤ n)
    (h : match F (psOf L) (ioOf L) with
      | .ok r s' => match retR L r s' s with
        | .ok r2 s2 => ∀ w2 H2, StR K w2 s2 σ H2 → Ext s.ce.length w s H w2 s2 H2 → QV K Q w2 r2 s2 H2
        | _ => False
      | _ => False) : Calls K n F vs H Q := by
  refine ⟨w.go L, psOf L, ioOf L, by rw [io_len, hL.ln], ent_ok hS hL hn, ?_⟩
  cases eF : F (psOf L) (ioOf L) with
  | bad => rw [eF] at h; exact h
  | exc x s' => rw [eF] at h; exact h
  | ok r s' =>
    rw [eF] at h
    dsimp only at h ⊢
    intro w' σ' H' v a b c
    rw [io_len] at b
    cases er : retR L r s' s with
    | bad => rw [er] at h; exact h.elim
    | exc x s2 => rw [er] at h; exact h.elim
    | ok r2 s2 =>
      rw [er] at h
      obtain ⟨w2, g1, g2, g3⟩ := retR_ok hS hL a b c er
      exact h w2 H' g1 g2 v g3
end E
namespace E
open PySem PySem.Spec PyProof.Rows L2
theorem start_eq {N : List Str} {n : Nat} (h : N.length = n) (vs : List V) : L2.start N vs = startN n vs := by
  subst h
  rfl
/-- THE RULE for a def: its body as a combinator -/
theorem fnG_of {P : Program} {w : World} {K : PySem.W.Frag} {mg : Str → Option Value} {base : Heap} {x qual : Str} {st : Stmt} {dvs : List V} {kws : List (Str × V)} {f : Addr} {fd : FuncData} {N ps : List Str} {k n : Nat} {fb : SS}
    (D : FunD K x qual (defArgs st) (defBody st) (defScope st) dvs kws f fd) (S : FnScope N ps (defScope st)) (hn : N.length = n)
    (body : ∀ (cdv : Value) (A : Around) (outer : List Env) (z : Shared) (H : Hp), Room k (A.deeper (envOfC qual (defScope st) z.heap.objs.size f cdv)) → (A.deeper (envOfC qual (defScope st) z.heap.objs.size f cdv)).guards = some [] →
      SB (cxOf CX0 P w K mg base N qual (defScope st) f cdv A outer z H L2.E0).nox W0 (defBody st) fb) : FnG P w K mg base (k + 1) f fd ps n (runF n fb) := by
  obtain ⟨oc, od, dV, kV, doc, pm, an, cdv, ct, osl, rfl, at_, code, _, _⟩ := D.ex
  refine ⟨fun A outer z H args us vs Q room gd env0 bnd val len call => ?_⟩
  have inK : K.In z.heap := env0.mod.kin.keeps fun b o e => (env0.bs b o e).1
  have nolim : z.heap.NoLimit := env0.mod.nolimit.keeps fun b o e => (env0.bs b o e).1
  have kinds : ∀ y ∈ ps.zip us, (defScope st).names.lookup y.1 = some .local ∨ ((defScope st).names.lookup y.1 = some .cell ∧ ((cellsFrom (z.heap.objs.size + 1) (defScope st).names []).lookup y.1).isSome = true) := by
    rintro ⟨y, u⟩ hy
    have hp := S.par y (List.of_mem_zip hy).1
    exact hp.imp id fun q => ⟨q, PySem.W.cellsFrom_some _ _ _ (.inl q)⟩
  refine codeAny_call_function room.depth (inK _ _ at_) rfl S.co S.gen rfl (PySem.W.codeRec_of inK code) (bnd _ _ _ _ ?_)
  refine wpAny_newFunctionEnv_cells S.kind kinds fun env he z1 entered => ?_
  subst he
  refine ⟨nolim.keeps entered.toInCall.keep, codeAny_func ?_⟩
  have I0 : Inv (cxOf CX0 P w K mg base N qual (defScope st) f cdv A outer z H L2.E0) [] (L2.start N vs) H z1 := inv_start S room.hd env0 len val entered
  have told := (body cdv A outer z H (room.deeper _) gd).nox
  obtain ⟨w0, qs, io, lio, hS, fin⟩ := call
  rw [start_eq hn] at I0
  have wish : tS K mg W0 fb { nx := fun _ H' => Q .non H', rt := Q } (startN n vs) H := by
    refine ⟨w0, ent n qs io, hS, ?_⟩
    have np : (ent n qs io).np = io.length := rfl
    rw [np]
    unfold runF at fin
    cases eb : fb (ent n qs io) with
    | bad => rw [eb] at fin; exact fin
    | exc y s' => rw [eb] at fin; exact fin.elim
    | ok a s' =>
      rw [eb] at fin
      cases a with
      | nx => exact fun w' σ' H' a b => fin w' σ' H' .non a b .non
      | rt r => exact fun w' σ' H' v a b c => fin w' σ' H' v a b c
      | bk => exact fin.elim
      | ct => exact fin.elim
  refine wpAny_mono (told.run [] z1 (startN n vs) H _ I0 wish) (fun fl z2 h => ?_) fun e z2 h => h
  cases fl with
  | ret u =>
    obtain ⟨v, σ', H', J, rv, q⟩ := h
    exact ⟨v, H', J.os, J.bare, J.base, J.hok, rv, q⟩
  | next =>
    obtain ⟨σ', H', J, q⟩ := h
    exact ⟨V.non, H', J.os, J.bare, J.base, J.hok, rfl, q⟩
  | brk => exact h.elim fun _ h => h.elim fun _ h => h.2.elim
  | cont => exact h.elim fun _ h => h.elim fun _ h => h.2.elim

/-! ### which value goes to which parameter -/
def pick {α : Type} (ix : List Nat) (xs : List α) : List α := ix.filterMap fun i => xs[i]?
theorem vals_pick {vs : List V} {us : List Value} (h : Vals vs us) : ∀ ix : List Nat, Vals (pick ix vs) (pick ix us)
  | [] => .nil
  | i :: ix => by
    unfold pick
    cases e : vs[i]? with
    | none =>
      have e2 : us[i]? = none := by
        rw [List.getElem?_eq_none_iff] at e ⊢
        rw [← h.length]; exact e
      rw [List.filterMap_cons_none (by exact e), List.filterMap_cons_none (by exact e2)]
      exact vals_pick h ix
    | some v =>
      obtain ⟨u, e2, r⟩ := h.get e
      rw [List.filterMap_cons_some (by exact e), List.filterMap_cons_some (by exact e2)]
      exact .cons r (vals_pick h ix)
theorem rrs_pick {K : PySem.W.Frag} {w : Wd} {n : Nat} {H : Hp} {vs : List V} {rs : List R} (h : RRs K w n H vs rs) : ∀ ix : List Nat, RRs K w n H (pick ix vs) (pick ix rs)
  | [] => .nil
  | i :: ix => by
    unfold pick
    cases e : rs[i]? with
    | none =>
      have e2 : vs[i]? = none := by
        rw [List.getElem?_eq_none_iff] at e ⊢
        rw [h.length]; exact e
      rw [List.filterMap_cons_none (by exact e2), List.filterMap_cons_none (by exact e)]
      exact rrs_pick h ix
    | some r =>
      obtain ⟨v, e2, q⟩ := h.get e
      rw [List.filterMap_cons_some (by exact e2), List.filterMap_cons_some (by exact e)]
      exact .cons q (rrs_pick h ix)
/-- the defaults that stand in a text -/
def dflV : D → Option V
  | .none => some .non
  | .bool b => some (.bl b)
  | .int i => some (.int i)
  | .str x => some (.str x)
  | _ => none
theorem dflV_ok {K : PySem.W.Frag} {Z : Addr → Prop} {H : Hp} {d : D} {v : V} (h : dflV d = some v) : Den K Z H v d := by
  cases d <;> cases h <;> constructor
theorem dflVs_ok {K : PySem.W.Frag} {w : Wd} {n : Nat} {H : Hp} : ∀ {ds : List D} {vs : List V}, ds.mapM dflV = some vs → RRs K w n H vs (ds.map R.sh)
  | [], vs, h => by
    have : vs = [] := by simpa using h.symm
    subst this
    exact .nil
  | d :: ds, vs, h => by
    rw [List.mapM_cons] at h
    cases e1 : dflV d with
    | none => rw [e1] at h; cases h
    | some v =>
      rw [e1] at h
      cases e2 : ds.mapM dflV with
      | none => rw [e2] at h; cases h
      | some us =>
        rw [e2] at h
        have : v :: us = vs := Option.some.inj h
        subst this
        exact .cons (dflV_ok e1) (dflVs_ok e2)
/-- m values are written and the keywords ks; ds are the values of the defaults -/
def BN (K : PySem.W.Frag) (fd : FuncData) (ps : List Str) (m : Nat) (ks : List Str) (ix : List Nat) (ds : List Value) : Prop := ∀ (z : Shared) (us ws : List Value), K.In z.heap → us.length = m → ws.length = ks.length → BindsTo z fd ⟨us, ks.zip ws⟩ (ps.zip (pick ix (us ++ ws ++ ds)))
theorem bn0 {K : PySem.W.Frag} {x qual : Str} {params : Arguments} {body : List Stmt} {scope : Scope} {kws : List (Str × V)} {f : Addr} {fd : FuncData} {ps ks : List Str} {m : Nat} {ix : List Nat} (D : FunD K x qual params body scope [] kws f fd)
    (h : ∀ (kV doc pm : Value) (an : Option Addr) (cdv ct : Value) (us ws : List Value), us.length = m → ws.length = ks.length → bindArgs (PySem.W.fnOf x qual params body scope .none kV doc pm an cdv ct) ⟨us, ks.zip ws⟩ = pure (ps.zip (pick ix (us ++ ws ++ [])))) : BN K fd ps m ks ix [] := by
  obtain ⟨oc, od, dV, kV, doc, pm, an, cdv, ct, osl, rfl, at_, code, hD, _⟩ := D.ex
  rcases hD with ⟨_, rfl⟩ | ⟨e, _⟩
  · exact fun z us ws _ l1 l2 => .of_eq (h kV doc pm an cdv ct us ws l1 l2)
  · exact absurd rfl e
theorem bn1 {K : PySem.W.Frag} {x qual : Str} {params : Arguments} {body : List Stmt} {scope : Scope} {dvs : List V} {kws : List (Str × V)} {f : Addr} {fd : FuncData} {ps ks : List Str} {m : Nat} {ix : List Nat} (D : FunD K x qual params body scope dvs kws f fd) (hd : dvs ≠ [])
    (h : ∀ (T : Addr) (kV doc pm : Value) (an : Option Addr) (cdv ct : Value) (us ws its : List Value), us.length = m → ws.length = ks.length → its.length = dvs.length →
      ∃ k, bindArgs (PySem.W.fnOf x qual params body scope (.ref T) kV doc pm an cdv ct) ⟨us, ks.zip ws⟩ = seqItems? (.ref T) >>= k ∧ k (some its.toArray) = pure (ps.zip (pick ix (us ++ ws ++ its)))) : ∃ ds, Vals dvs ds ∧ BN K fd ps m ks ix ds := by
  obtain ⟨oc, od, dV, kV, doc, pm, an, cdv, ct, osl, rfl, at_, code, hD, _⟩ := D.ex
  rcases hD with ⟨e, _⟩ | ⟨_, T, o, its, j, rfl, lT, oT, rT⟩
  · exact absurd e hd
  · refine ⟨its, rT, fun z us ws X l1 l2 => BindsTo.of_looks fun M => ?_⟩
    obtain ⟨k, e1, e2⟩ := h T kV doc pm an cdv ct us ws its l1 l2 rT.length.symm
    rw [e1]
    exact looks_items X lT oT (.of_pure e2)

/-! ### calls -/
/-- f(e, .., k = v, ..) -/
def callF (md : List Bool) (F : FT) (m q : Nat) (ix : List Nat) (ds : List D) (fa fk : AS) : ES := fun s => (fa s).bind fun rs s1 => (fk s1).bind fun ks s2 => if rs.length = m ∧ ks.length = q then callD md F (pick ix (rs ++ ks ++ ds.map R.sh)) s2 else .bad
section
variable {X : Cx} {W : WX} {x : Str} {k m n : Nat} {f : Addr} {fd : FuncData} {ps ks : List Str} {F : FT} {ix : List Nat} {ds : List D} {dvs : List V} {dus : List Value} {md : List Bool} {fa fk : AS} {e : Expr} {es : List Expr} {kws : List Keyword} {p pos : Pos}
theorem run_g {pins : List (Addr × Obj)} {σ : St} {H : Hp} {z : Shared} {Q : VK} {us : List Value} {vs : List V} {args : List (Str × Value)} {us0 : List Value} (G : FnG X.prog X.w X.K X.mg X.base k f fd ps n F) (hr : Room k X.A) (hg : X.A.guards = some []) (I : Inv X pins σ H z) (r : Vals vs us) (hl : vs.length = ps.length)
    (hb : BindsTo z fd ⟨us0, args⟩ (ps.zip us)) (h : Calls X.K n F vs H Q) : wpAny (model X.prog X.w) X.A (call (.ref f) us0 args) (EP X pins σ Q) X.xe z := by
  refine wpAny_call (codeAny_mono (G.run X.A X.stack z H ⟨us0, args⟩ us vs Q hr hg I.env0 hb r hl h) fun res z' hq => ?_)
  cases res with
  | error e => exact hq.elim
  | ok fl =>
    cases fl with
    | ret u => exact I.after hq
    | _ => exact hq.elim
def SK (X : Cx) (W : WX) (kws : List Keyword) (f : AS) : Prop := PK X kws (tA X.K X.mg W f)
/-- the wishes behind the values -/
theorem call_at {σ : St} {H : Hp} {Q : VK} (hd : ds.mapM dflV = some dvs) (hz : ps.length ≤ n) (h : tE X.K X.mg W (callF md F m ks.length ix ds fa fk) σ H Q) :
    tA X.K X.mg W fa σ H fun vs H1 => tA X.K X.mg W fk σ H1 fun ws H2 => vs.length = m ∧ ws.length = ks.length ∧ ((pick ix (vs ++ ws ++ dvs)).length = ps.length → Calls X.K n F (pick ix (vs ++ ws ++ dvs)) H2 Q) := by
  obtain ⟨w, s, hS, h⟩ := h
  unfold callF at h
  refine ⟨w, s, hS, Post.mono (Post.split h) fun w1 rs s1 H1 _ _ ⟨hS1, e1, h1⟩ vs hvs => ?_⟩
  replace h1 := h1 s1.ce.length e1.ln
  refine ⟨w1, s1, hS1, Post.mono (Post.split h1) fun w2 zs s2 H2 _ _ ⟨hS2, e2, h2⟩ ws hws => ?_⟩
  replace h2 := h2 s2.ce.length e2.ln
  split at h2
  · rename_i hlen
    obtain ⟨l1, l2⟩ := hlen
    have hvs2 := RRs.stay hS1 e2 (Nat.le_refl _) hvs
    have all := rrs_pick ((hvs2.append hws).append (dflVs_ok hd)) ix
    refine ⟨hvs.length.trans l1, hws.length.trans l2, fun hps => ?_⟩
    unfold callD at h2
    split at h2
    · rename_i L eL
      split at h2
      · rename_i ha
        have hL := lok_of hS2 all eL ha
        refine calls_of hS2 hL (by rw [hL.ln, hps]; exact hz) ?_
        cases eF : F (psOf L) (ioOf L) with
        | bad => rw [eF] at h2; exact h2.elim
        | exc y s' => rw [eF] at h2; exact h2.elim
        | ok r s' =>
          rw [eF] at h2
          dsimp only at h2 ⊢
          cases er : retR L r s' s2 with
          | bad => rw [er] at h2; exact h2.elim
          | exc y s3 => exact (retR_noexc er).elim
          | ok r2 s3 =>
            rw [er] at h2
            exact h2
      · exact h2.elim
    · exact h2.elim
  · exact h2.elim
/-- how many parameters ix fills -/
theorem pick_len {α β : Type} {xs : List α} {ys : List β} (h : xs.length = ys.length) : ∀ ix : List Nat, (pick ix xs).length = (pick ix ys).length
  | [] => rfl
  | i :: ix => by
    have ih := pick_len h ix
    unfold pick at ih ⊢
    cases e : xs[i]? with
    | none =>
      have e2 : ys[i]? = none := by
        rw [List.getElem?_eq_none_iff] at e ⊢
        rw [← h]; exact e
      rw [List.filterMap_cons_none (by exact e), List.filterMap_cons_none (by exact e2)]
      exact ih
    | some v =>
      have hi := (List.getElem?_eq_some_iff.mp e).1
      have e2 : ys[i]? = some (ys[i]'(by omega)) := List.getElem?_eq_getElem _
      rw [List.filterMap_cons_some (by exact e), List.filterMap_cons_some (by exact e2), List.length_cons, List.length_cons, ih]
theorem pick_all {α : Type} {xs : List α} : ∀ {ix : List Nat}, (∀ i ∈ ix, i < xs.length) → (pick ix xs).length = ix.length
  | [], _ => rfl
  | i :: ix, h => by
    have hi := h i List.mem_cons_self
    have ih := pick_all (ix := ix) (xs := xs) fun j hj => h j (List.mem_cons_of_mem _ hj)
    unfold pick at ih ⊢
    rw [List.filterMap_cons_some (by exact List.getElem?_eq_getElem hi), List.length_cons, List.length_cons, ih]
/-- what the callee asks -/
structure Callee (X : Cx) (x : Str) (k : Nat) (f : Addr) (fd : FuncData) (ps ks : List Str) (n m : Nat) (F : FT) (ix : List Nat) (ds : List D) (dvs : List V) (dus : List Value) : Prop where
  fn : FnG X.prog X.w X.K X.mg X.base k f fd ps n F
  room : Room k X.A
  gd : X.A.guards = some []
  mg : X.mg x = some (.ref f)
  kp : PySem.W.keepIn X.K (.ref f) = true
  bn : BN X.K fd ps m ks ix dus
  dv : Vals dvs dus
  dd : ds.mapM dflV = some dvs
  np : ps.length ≤ n
  il : ix.length = ps.length
  ib : ∀ i ∈ ix, i < m + ks.length + dvs.length
theorem call_run {pins : List (Addr × Obj)} {σ : St} {H2 : Hp} {z : Shared} {Q : VK} {us us2 : List Value} {vs ws : List V} (C : Callee X x k f fd ps ks n m F ix ds dvs dus) (I : Inv X pins σ H2 z) (r : Vals vs us) (r2 : Vals ws us2) (l1 : vs.length = m) (l2 : ws.length = ks.length)
    (h : (pick ix (vs ++ ws ++ dvs)).length = ps.length → Calls X.K n F (pick ix (vs ++ ws ++ dvs)) H2 Q) : wpAny (model X.prog X.w) X.A (call (.ref f) us (ks.zip us2)) (EP X pins σ Q) X.xe z := by
  have hl : (pick ix (vs ++ ws ++ dvs)).length = ps.length := by
    rw [pick_all (fun i hi => by have := C.ib i hi; simp only [List.length_append, l1, l2]; exact this), C.il]
  exact run_g C.fn C.room C.gd I (vals_pick ((r.append r2).append C.dv) ix) hl (C.bn z us us2 I.kIn (r.length.symm.trans l1) (r2.length.symm.trans l2)) (h hl)
theorem se_call (C : Callee X x k f fd ps [] n m F ix ds dvs dus) (hg : Gl X x) (ha : SA X W (e :: es) fa)
    (hdb : (x == ("__debug__" : Str)) = false := by decide) (he : starEach (e :: es) X.env = (false, eval e X.env) :: starEach es X.env := by rfl) (hpl : (backTo pos (starEach es X.env)).any (·.1) = false := by rfl) :
    SE X W (.Call (.Name x p) (e :: es) [] pos) (callF md F m 0 ix ds fa nilA) := by
  refine ⟨fun pins z σ H Q I h => ?_⟩
  refine wpAny_Call_Name_kw (ld_glob I hg C.mg ?_ hdb)
  refine PySem.W.callWith_K (h₀ := X.base) I.ok.mod.kin C.kp (thn (ha.run pos pins z σ H _ I (call_at (ks := []) C.dd C.np h)) fun us z1 ⟨vs, H1, I1, r, q⟩ => ⟨I1.kIn, ?_⟩) he hpl
  obtain ⟨w, s, hS, q⟩ := q
  obtain ⟨l1, l2, q⟩ := q w H1 hS (Ext.refl (Nat.le_refl _)) [] .nil
  exact call_run (us2 := []) C I1 r .nil l1 l2 q
theorem se_call0 (C : Callee X x k f fd ps [] n 0 F ix ds dvs dus) (hg : Gl X x) (hdb : (x == ("__debug__" : Str)) = false := by decide) :
    SE X W (.Call (.Name x p) [] [] pos) (callF md F 0 0 ix ds nilA nilA) := by
  refine ⟨fun pins z σ H Q I h => ?_⟩
  refine wpAny_Call_Name_kw (ld_glob I hg C.mg ?_ hdb)
  obtain ⟨w, s, hS, q⟩ := call_at (ks := []) C.dd C.np h
  obtain ⟨w, s, hS, q⟩ := q w H hS (Ext.refl (Nat.le_refl _)) [] .nil
  obtain ⟨l1, l2, q⟩ := q w H hS (Ext.refl (Nat.le_refl _)) [] .nil
  exact PySem.W.callWith_K0 I.kIn C.kp (call_run (us := []) (us2 := []) C I .nil .nil l1 l2 q)
theorem se_callK (C : Callee X x k f fd ps ks n m F ix ds dvs dus) (hg : Gl X x) (ha : SA X W (e :: es) fa) (hk : SK X W kws fk) (hall : (backToKw pos (keywordEach kws X.env)).all (·.1.isSome) = true := by rfl) (hks : (backToKw pos (keywordEach kws X.env)).filterMap (·.1) = ks := by rfl)
    (hdb : (x == ("__debug__" : Str)) = false := by decide) (he : starEach (e :: es) X.env = (false, eval e X.env) :: starEach es X.env := by rfl)
    (hpl : ((backTo pos (starEach (e :: es) X.env)).any (·.1) || (backToKw pos (keywordEach kws X.env)).any (·.1.isNone)) = false := by rfl) :
    SE X W (.Call (.Name x p) (e :: es) kws pos) (callF md F m ks.length ix ds fa fk) := by
  refine ⟨fun pins z σ H Q I h => ?_⟩
  refine wpAny_Call_Name_kw (ld_glob I hg C.mg ?_ hdb)
  refine PySem.W.callWith_KW (h₀ := X.base) I.ok.mod.kin C.kp hall (thn (ha.run pos pins z σ H _ I (call_at C.dd C.np h)) fun us z1 ⟨vs, H1, I1, r, q⟩ => ?_) hpl he
  refine thn (hk.run pos pins z1 σ H1 _ I1 q) fun us2 z2 ⟨ws, H2, I2, r2, l1, l2, q2⟩ => ⟨I2.kIn, ?_⟩
  rw [hks]
  exact call_run C I2 r r2 l1 l2 q2
theorem se_callK0 (C : Callee X x k f fd ps ks n 0 F ix ds dvs dus) (hg : Gl X x) (hk : SK X W kws fk) (hall : (backToKw pos (keywordEach kws X.env)).all (·.1.isSome) = true := by rfl) (hks : (backToKw pos (keywordEach kws X.env)).filterMap (·.1) = ks := by rfl)
    (hdb : (x == ("__debug__" : Str)) = false := by decide)
    (hpl : ((backTo pos (starEach [] X.env)).any (·.1) || (backToKw pos (keywordEach kws X.env)).any (·.1.isNone)) = false := by rfl) :
    SE X W (.Call (.Name x p) [] kws pos) (callF md F 0 ks.length ix ds nilA fk) := by
  refine ⟨fun pins z σ H Q I h => ?_⟩
  refine wpAny_Call_Name_kw (ld_glob I hg C.mg ?_ hdb)
  obtain ⟨w, s, hS, q⟩ := call_at C.dd C.np h
  have q := q w H hS (Ext.refl (Nat.le_refl _)) [] .nil
  refine PySem.W.callWith_KW0 (h₀ := X.base) I.ok.mod.kin C.kp hall (thn (hk.run pos pins z σ H _ I q) fun us2 z2 ⟨ws, H2, I2, r2, l1, l2, q2⟩ => ⟨I2.kIn, ?_⟩) hpl
  rw [hks]
  exact call_run (us := []) C I2 .nil r2 l1 l2 q2
theorem sk_nil : SK X W [] nilA := ⟨fun pos pins s σ H Q I ⟨w, s', hS, h⟩ => (pk_nil (X := X)).run pos pins s σ H Q I (h w H hS (Ext.refl (Nat.le_refl _)) [] .nil)⟩
end
end E
/-! E14: the law's own def, from the script. -/
namespace E
open PySem PySem.Spec PyProof.Rows L2

/-- what the law's def has to answer -/
def Keeps (F : FT) (m : Nat) : Prop := ∀ ns : List Int, ns.length ≤ m → ∃ s', F [.sh (.list (ns.map PyData.int))] [.dead] = .ok (.sh (.bool true)) s'
theorem calls_law {K : PySem.W.Frag} {n : Nat} {F : FT} {H : Hp} {a : Addr} {ns : List Int} (hn : 1 ≤ n) (hl : LstZ K (fun _ => False) H a (ns.map V.int)) (hF : ∃ s', F [.sh (.list (ns.map PyData.int))] [.dead] = .ok (.sh (.bool true)) s') : Calls K n F [.ref a] H fun v _ => v = .bl true := by
  obtain ⟨s', hF⟩ := hF
  have d0 : Den K (fun _ => False) H (.ref a) (.list (ns.map PyData.int)) := .lst hl (Dens.map_int ns)
  have hS : StR K ⟨fun _ => False, fun _ => 0⟩ ⟨[], [], 0⟩ [] H := ⟨fun i c e => by simp at e, fun i j x y e => by simp at e, fun i r e => by simp at e, Nat.le_refl _, fun b hb => hb.elim, fun i c e => by simp at e, Nat.le_refl _, fun i ds e => by simp at e⟩
  have hL : LOk K ⟨fun _ => False, fun _ => 0⟩ ⟨[], [], 0⟩ H [.sh (.list (ns.map PyData.int))] [.ref a] := by
    refine ⟨rfl, fun i pa e => ?_, fun i j c x y e => ?_, fun i j c x ds e => ?_⟩
    · cases i with
      | zero =>
        have : Pa.sh (.list (ns.map PyData.int)) = pa := by simpa using e
        subst this
        exact ⟨_, rfl, d0⟩
      | succ i => simp at e
    · cases i with
      | zero => simp at e
      | succ i => simp at e
    · cases i with
      | zero => simp at e
      | succ i => simp at e
  refine ⟨_, psOf [.sh (.list (ns.map PyData.int))], ioOf [.sh (.list (ns.map PyData.int))], rfl, ent_ok hS hL hn, ?_⟩
  have e1 : psOf [.sh (.list (ns.map PyData.int))] = [.sh (.list (ns.map PyData.int))] := rfl
  have e2 : ioOf [Pa.sh (.list (ns.map PyData.int))] = [.dead] := rfl
  rw [e1, e2, hF]
  intro w' σ' H' v _ _ hv
  cases (show Den K w'.Z H' v (.bool true) from hv)
  rfl
/-- of the script's object the abstract heap knows at most itself -/
structure Alone (K : PySem.W.Frag) (h : Heap) (a : Addr) (H : Hp) : Prop where
  at_ : ∀ b, H b ≠ none → b = a
  frz : H a = none ∨ ∃ (o : Obj) (xs : List V), H a = some (.frz o (.lst xs)) ∧ h.get? a = some o
  kn : H a ≠ none → K.lookup a = none
theorem law_run {P : Program} {w : World} {K : PySem.W.Frag} {mg mb : Str → Option Value} {k n m : Nat} {fa a : Addr} {fd : FuncData} {x : Str} {F : FT} {z : Shared} {vs : List Value} {ns : List Int}
    (inK : K.In z.heap) (gl : z.heap.Ns mainGlobals mg) (bl : z.heap.Ns builtinsNs mb) (bb : ∀ y : Str, y ≠ "__name__" → mb y = bootBuiltins y) (lim : z.heap.NoLimit) (bare : z.gens = #[])
    (at_ : z.heap.get? a = some { cls := .type "list", data := .seq vs.toArray }) (hint : IntsAre vs ns) (small : ns.length ≤ sizeLine) (room : Room k callerA) (hn : 1 ≤ n)
    (G : ∀ base : Heap, K.In base → base.Ns mainGlobals mg → FnG P w K mg base k fa fd [x] n F) (bind : ∀ (y : Shared) (u : Value), BindsTo y fd ⟨[u], []⟩ [(x, u)]) (hF : ∃ s', F [.sh (.list (ns.map PyData.int))] [.dead] = .ok (.sh (.bool true)) s') :
    codeAny (model P w) callerA (.call (.ref fa) ⟨[.ref a], []⟩) (fun r y => r = .ok (.ret (.bool true)) ∧ OldK z.heap y.heap ∧ y.os = z.os ∧ AllBare y.gens) z := by
  have vals := vals_ints hint
  have run : ∀ H : Hp, Alone K z.heap a H → LstZ K (fun _ => False) H a (ns.map V.int) → HOk P w H z.heap → codeAny (model P w) callerA (.call (.ref fa) ⟨[.ref a], []⟩) (fun r y => r = .ok (.ret (.bool true)) ∧ OldK z.heap y.heap ∧ y.os = z.os ∧ AllBare y.gens) z := by
    intro H al lz hok
    have only : ∀ {b : Addr} {u : HO}, H b = some u → b = a := fun {b u} q => al.at_ b (by rw [q]; simp)
    -- what lies in the heap and is not the script
    have rest : ∀ {b : Addr} {o : Obj}, z.heap.get? b = some o → (b = a → H b = none) → (hidT z.heap H).get? b = some o := fun {b o} e h => hidT_get e (by
      cases q : H b with
      | none => rfl
      | some u => rw [h (only q)] at q; cases q)
    have spaces : ∀ {b : Addr} {f : Str → Option Value}, z.heap.Ns b f → (hidT z.heap H).Ns b f := fun {b f} ⟨o, es, ep, e, d, r⟩ => ⟨o, es, ep, rest e (fun q => by
      subst q
      rw [at_] at e
      cases e
      have d' : Data.seq vs.toArray _ = Data.dict es ep := d
      cases d'), d, r⟩
    have inB : K.In (hidT z.heap H) := fun b o e => rest (inK b o e) fun q => by
      subst q
      cases hb : H b with
      | none => rfl
      | some u => rw [al.kn (by rw [hb]; simp)] at e; cases e
    have md : Mod K mg (hidT z.heap H) := ⟨inB, spaces gl, ⟨mb, spaces bl, bb⟩, let ⟨mc, h1, h2⟩ := lim; ⟨mc, spaces h1, h2⟩⟩
    have env0 : Env0 P w K mg (hidT z.heap H) callerA [] z H := ⟨rfl, md, fun b o e => of_hidT e, Nat.le_of_eq (hidT_size _ _), trivial, fun b hb => (List.not_mem_nil hb).elim, hok, .of_eq bare⟩
    refine codeAny_mono ((G _ inB (spaces gl)).run callerA [] z H ⟨[.ref a], []⟩ [.ref a] [.ref a] _ room rfl env0 (bind z (.ref a)) (.cons rfl .nil) rfl (calls_law hn lz hF)) fun r y h => ?_
    cases r with
    | error e => exact h.elim
    | ok fl =>
      cases fl with
      | ret u =>
        obtain ⟨v, H', os, gens, un, hok', rv, q⟩ := h
        have q : v = .bl true := q
        subst q
        obtain rfl : u = Value.bool true := rv
        refine ⟨rfl, OldK.of_keep fun b o e => ?_, os, gens⟩
        cases hb : H b with
        | none => exact un.keep b o e hb (List.not_mem_nil) (List.not_mem_nil)
        | some u =>
          have := only hb
          subst this
          rcases al.frz with q | ⟨o', xs, q, e'⟩
          · rw [hb] at q; cases q
          · rw [e] at e'
            cases e'
            exact (hok' b _ (un.frzs b o _ q)).1
      | _ => exact h.elim
  cases hk : K.lookup a with
  | some o =>
    have e := inK a o hk
    rw [at_] at e
    cases e
    exact run (fun _ => none) ⟨fun b q => (q rfl).elim, .inl rfl, fun q => (q rfl).elim⟩ (.inr (.inr ⟨vs, _, hk, by rw [List.length_map]; exact small, vals⟩)) fun b u q => by cases (show (none : Option HO) = some u from q)
  | none =>
    have self : (fun b => if b = a then some (HO.frz { cls := .type "list", data := .seq vs.toArray } (.lst (ns.map V.int))) else none : Hp) a = some (.frz { cls := .type "list", data := .seq vs.toArray } (.lst (ns.map V.int))) := if_pos rfl
    have other : ∀ b, b ≠ a → (fun b => if b = a then some (HO.frz { cls := .type "list", data := .seq vs.toArray } (.lst (ns.map V.int))) else none : Hp) b = none := fun b hb => if_neg hb
    refine run _ ⟨fun b q => Decidable.byContradiction fun hb => q (other b hb), .inr ⟨_, _, self, at_⟩, fun _ => hk⟩ (.inr (.inl ⟨_, self⟩)) fun b u q => ?_
    by_cases hb : b = a
    · subst hb
      have q := self.symm.trans q
      cases q
      exact ⟨at_, by rw [List.length_map]; exact small, vs, _, vals, at_⟩
    · have q := (other b hb).symm.trans q
      cases q
/-- the goal that the head leaves -/
theorem walk_g {l : PySem.W.OpenLaw} {m k n : Nat} {q : Program} {loose : List Str} {XP : (Str → Option Value) → Heap → Prop} {YP : World → Heap → Prop} {d : DefRec} {K : Params → PySem.W.Frag} {x : Str} {F : FT}
    (hm : l.most = some m) (hs : m ≤ sizeLine) (hd : d.params.defaults = []) (room : Room k callerA) (hn : 1 ≤ n) (hY : ∀ (w : World) (h : Heap), YP w h → (K w.params).In h)
    (G : ∀ (w : World) (mg : Str → Option Value) (fa : Addr) (h : Heap), (K w.params).In h → h.Ns mainGlobals mg → mg d.name = some (.ref fa) →
      ∃ fd : FuncData, (∀ (y : Shared) (u : Value), BindsTo y fd ⟨[u], []⟩ [(x, u)]) ∧ ∀ base : Heap, (K w.params).In base → base.Ns mainGlobals mg → FnG l.prog w (K w.params) mg base k fa fd [x] n F)
    (hF : Keeps F m) : PySem.W.WalkO q loose XP YP l.row.toRowW d [] (fun f vs => PySem.call f vs) := by
  refine Att.attach_call hm hd fun w z₀ z mg mb fa o pm cd doc a vs ns gr Y _ _ _ hmg at_ hint len bare => ?_
  have inK := hY w _ Y
  obtain ⟨fd, bind, G'⟩ := G w mg fa _ inK gr.T.g hmg
  exact law_run (m := m) inK gr.T.g gr.T.b gr.T.builtins gr.T.nolimit bare at_ hint (Nat.le_trans len hs) room hn G' bind (hF ns len)
section
variable {X : Cx} {W : WX} {e : Expr} {kws : List Keyword} {f : ES} {fk : AS} {kpos : Pos} {nm : Option Str}
theorem sk_cons (ha : SE X W e f) (hr : SK X W kws fk) : SK X W (⟨nm, e, kpos⟩ :: kws) (consA f fk) := by
  refine ⟨fun pos pins z σ H Q I ⟨w, s, hS, h⟩ => (pk_cons ha hr).run pos pins z σ H Q I ?_⟩
  refine ⟨w, s, hS, Post.mono (Post.split h) fun w1 r1 s1 H1 _ _ ⟨hS1, e1, h1⟩ v hv => ?_⟩
  refine ⟨w1, s1, hS1, Post.mono (Post.split (h1 s1.ce.length e1.ln)) fun w2 rs s2 H2 _ _ ⟨hS2, e2, h2⟩ vs hvs => ?_⟩
  exact h2 s2.ce.length e2.ln w2 H2 hS2 (Ext.refl (Nat.le_refl _)) _ (.cons (RR.stay hS1 e2 (Nat.le_refl _) hv) hvs)
end
end E
/-! E15: short words for printed proofs. -/
namespace E
open PySem PySem.Spec PyProof.Rows L2

/-- a constant of the text's top -/
def Con (K : PySem.W.Frag) (mg : Str → Option Value) (x : Str) (d : D) : Prop := ∃ (v : V) (u : Value), mg x = some u ∧ RelV v u ∧ ∀ Z H, Den K Z H v d
theorem con_int {K : PySem.W.Frag} {mg : Str → Option Value} {x : Str} {i : Int} {t : Tok} (h : mg x = some (.int i t)) : Con K mg x (.int i) := ⟨.int i, _, h, ⟨t, rfl⟩, fun _ _ => .int i⟩
theorem con_str {K : PySem.W.Frag} {mg : Str → Option Value} {x i : Str} {t : Tok} (h : mg x = some (.str i t)) : Con K mg x (.str i) := ⟨.str i, _, h, ⟨t, rfl⟩, fun _ _ => .str i⟩
/-- a def of the text -/
def Own (P : Program) (w : World) (K : PySem.W.Frag) (mg : Str → Option Value) (base : Heap) (x : Str) (st : Stmt) (dvs : List V) (k : Nat) (ps : List Str) (n : Nat) (F : FT) : Prop :=
  ∃ (f : Addr) (fd : FuncData), FnG P w K mg base k f fd ps n F ∧ mg x = some (.ref f) ∧ PySem.W.keepIn K (.ref f) = true ∧ FunD K x x (defArgs st) (defBody st) (defScope st) dvs [] f fd
/-- .. as the top has written it -/
def Def (K : PySem.W.Frag) (mg : Str → Option Value) (x : Str) (st : Stmt) (dvs : List V) : Prop :=
  ∃ (f : Addr) (fd : FuncData), mg x = some (.ref f) ∧ FunD K x x (defArgs st) (defBody st) (defScope st) dvs [] f fd
abbrev Cxt (P : Program) (w : World) (K : PySem.W.Frag) (mg : Str → Option Value) (base : Heap) (N : List Str) (x : Str) (st : Stmt) (f : Addr) (cdv : Value) (A : Around) (outer : List Env) (z : Shared) (H : Hp) : Cx :=
  (cxOf CX0 P w K mg base N x (defScope st) f cdv A outer z H L2.E0).nox
theorem own_of {P : Program} {w : World} {K : PySem.W.Frag} {mg : Str → Option Value} {base : Heap} {x : Str} {st : Stmt} {dvs : List V} {N ps : List Str} {k n : Nat} {fb : SS} (D : Def K mg x st dvs) (S : C8.scC N ps (defScope st) = true) (hn : N.length = n)
    (body : ∀ (f : Addr) (cdv : Value) (A : Around) (outer : List Env) (z : Shared) (H : Hp), Room k (A.deeper (envOfC x (defScope st) z.heap.objs.size f cdv)) → (A.deeper (envOfC x (defScope st) z.heap.objs.size f cdv)).guards = some [] → SB (Cxt P w K mg base N x st f cdv A outer z H) W0 (defBody st) fb) : Own P w K mg base x st dvs (k + 1) ps n (runF n fb) := by
  obtain ⟨f, fd, hm, F⟩ := D
  exact ⟨f, fd, fnG_of F (C8.fnScope_by S) hn fun cdv A outer z H r g => body f cdv A outer z H r g, hm, F.kp, F⟩
section
variable {X : Cx} {W : WX} {x : Str} {k j m n : Nat} {ps ks : List Str} {F : FT} {ix : List Nat} {ds : List D} {dvs : List V} {md : List Bool} {fa fk : AS} {e : Expr} {es : List Expr} {kws : List Keyword} {p pos : Pos} {st : Stmt} {f : ES}
theorem v {i : Nat} (hN : X.N[i]? = some x := by rfl) (hv : Vis X.env.scope x := by first | exact Or.inl rfl | exact Or.inr (Or.inl rfl) | exact Or.inr (Or.inr rfl)) (hd : (x == ("__debug__" : Str)) = false := by decide) (hcd : (x == ("__classdict__" : Str)) = false := by decide) : SE X W (.Name x pos) (varS i) := se_var hN hv hd hcd
theorem se_con {d : D} (h : Con X.K X.mg x d) (hg : Gl X x := by rfl) (hdb : (x == ("__debug__" : Str)) = false := by decide) : SE X W (.Name x pos) (litS d) := by
  obtain ⟨v, u, hm, r, hd⟩ := h
  exact se_glob hg hm r hd hdb
/-- how the arguments of a call bind -/
def Bnd (x : Str) (st : Stmt) (ps ks : List Str) (m : Nat) (ix : List Nat) (dvs : List V) : Prop :=
  (dvs = [] ∧ ∀ (kV doc pm : Value) (an : Option Addr) (cdv ct : Value) (us ws : List Value), us.length = m → ws.length = ks.length → bindArgs (PySem.W.fnOf x x (defArgs st) (defBody st) (defScope st) .none kV doc pm an cdv ct) ⟨us, ks.zip ws⟩ = pure (ps.zip (pick ix (us ++ ws ++ [])))) ∨
  (dvs ≠ [] ∧ ∀ (T : Addr) (kV doc pm : Value) (an : Option Addr) (cdv ct : Value) (us ws its : List Value), us.length = m → ws.length = ks.length → its.length = dvs.length →
      ∃ k, bindArgs (PySem.W.fnOf x x (defArgs st) (defBody st) (defScope st) (.ref T) kV doc pm an cdv ct) ⟨us, ks.zip ws⟩ = seqItems? (.ref T) >>= k ∧ k (some its.toArray) = pure (ps.zip (pick ix (us ++ ws ++ its))))
theorem callee (O : Own X.prog X.w X.K X.mg X.base x st dvs k ps n F) (hb : Bnd x st ps ks m ix dvs) (hr : Room j X.A) (hj : k ≤ j) (gd : X.A.guards = some []) (dd : ds.mapM dflV = some dvs) (np : ps.length ≤ n) (il : ix.length = ps.length) (ib : ∀ i ∈ ix, i < m + ks.length + dvs.length) :
    ∃ f fd dus, Callee X x k f fd ps ks n m F ix ds dvs dus := by
  obtain ⟨f, fd, G, hm, hk, D⟩ := O
  rcases hb with ⟨rfl, h⟩ | ⟨hne, h⟩
  · exact ⟨f, fd, [], G, hr.mono hj, gd, hm, hk, bn0 D h, .nil, dd, np, il, ib⟩
  · obtain ⟨dus, r, b⟩ := bn1 D hne h
    exact ⟨f, fd, dus, G, hr.mono hj, gd, hm, hk, b, r, dd, np, il, ib⟩
theorem se_own (O : Own X.prog X.w X.K X.mg X.base x st dvs k ps n F) (hb : Bnd x st ps [] m ix dvs) (hr : Room j X.A) (gd : X.A.guards = some []) (ha : SA X W (e :: es) fa) (hj : k ≤ j := by decide) (dd : ds.mapM dflV = some dvs := by rfl) (np : ps.length ≤ n := by decide) (il : ix.length = ps.length := by rfl) (ib : ∀ i ∈ ix, i < m + ([] : List Str).length + dvs.length := by decide)
    (hg : Gl X x := by rfl) (hdb : (x == ("__debug__" : Str)) = false := by decide) (he : starEach (e :: es) X.env = (false, eval e X.env) :: starEach es X.env := by rfl) (hpl : (backTo pos (starEach es X.env)).any (·.1) = false := by rfl) :
    SE X W (.Call (.Name x p) (e :: es) [] pos) (callF md F m 0 ix ds fa nilA) := by
  obtain ⟨f, fd, dus, C⟩ := callee O hb hr hj gd dd np il ib
  exact se_call C hg ha hdb he hpl
theorem se_own0 (O : Own X.prog X.w X.K X.mg X.base x st dvs k ps n F) (hb : Bnd x st ps [] 0 ix dvs) (hr : Room j X.A) (gd : X.A.guards = some []) (hj : k ≤ j := by decide) (dd : ds.mapM dflV = some dvs := by rfl) (np : ps.length ≤ n := by decide) (il : ix.length = ps.length := by rfl) (ib : ∀ i ∈ ix, i < 0 + ([] : List Str).length + dvs.length := by decide)
    (hg : Gl X x := by rfl) (hdb : (x == ("__debug__" : Str)) = false := by decide) : SE X W (.Call (.Name x p) [] [] pos) (callF md F 0 0 ix ds nilA nilA) := by
  obtain ⟨f, fd, dus, C⟩ := callee O hb hr hj gd dd np il ib
  exact se_call0 C hg hdb
theorem se_ownK (O : Own X.prog X.w X.K X.mg X.base x st dvs k ps n F) (hb : Bnd x st ps ks m ix dvs) (hr : Room j X.A) (gd : X.A.guards = some []) (ha : SA X W (e :: es) fa) (hk : SK X W kws fk) (hj : k ≤ j := by decide) (dd : ds.mapM dflV = some dvs := by rfl) (np : ps.length ≤ n := by decide) (il : ix.length = ps.length := by rfl) (ib : ∀ i ∈ ix, i < m + ks.length + dvs.length := by decide)
    (hg : Gl X x := by rfl) (hall : (backToKw pos (keywordEach kws X.env)).all (·.1.isSome) = true := by rfl) (hks : (backToKw pos (keywordEach kws X.env)).filterMap (·.1) = ks := by rfl)
    (hdb : (x == ("__debug__" : Str)) = false := by decide) (he : starEach (e :: es) X.env = (false, eval e X.env) :: starEach es X.env := by rfl)
    (hpl : ((backTo pos (starEach (e :: es) X.env)).any (·.1) || (backToKw pos (keywordEach kws X.env)).any (·.1.isNone)) = false := by rfl) :
    SE X W (.Call (.Name x p) (e :: es) kws pos) (callF md F m ks.length ix ds fa fk) := by
  obtain ⟨f, fd, dus, C⟩ := callee O hb hr hj gd dd np il ib
  exact se_callK C hg ha hk hall hks hdb he hpl
theorem se_ownK0 (O : Own X.prog X.w X.K X.mg X.base x st dvs k ps n F) (hb : Bnd x st ps ks 0 ix dvs) (hr : Room j X.A) (gd : X.A.guards = some []) (hk : SK X W kws fk) (hj : k ≤ j := by decide) (dd : ds.mapM dflV = some dvs := by rfl) (np : ps.length ≤ n := by decide) (il : ix.length = ps.length := by rfl) (ib : ∀ i ∈ ix, i < 0 + ks.length + dvs.length := by decide)
    (hg : Gl X x := by rfl) (hall : (backToKw pos (keywordEach kws X.env)).all (·.1.isSome) = true := by rfl) (hks : (backToKw pos (keywordEach kws X.env)).filterMap (·.1) = ks := by rfl)
    (hdb : (x == ("__debug__" : Str)) = false := by decide)
    (hpl : ((backTo pos (starEach [] X.env)).any (·.1) || (backToKw pos (keywordEach kws X.env)).any (·.1.isNone)) = false := by rfl) :
    SE X W (.Call (.Name x p) [] kws pos) (callF md F 0 ks.length ix ds nilA fk) := by
  obtain ⟨f, fd, dus, C⟩ := callee O hb hr hj gd dd np il ib
  exact se_callK0 C hg hk hall hks hdb hpl
/-! targets -/
theorem t_nm {i : Nat} (hN : X.N.Nodup) (hi : X.N[i]? = some x := by rfl) (hx : Loc X.env.scope x := by first | exact .inl rfl | exact .inr rfl) (hf : X.fn x = true ∨ X.env.scope.names.lookup x = some .local := by first | exact .inl rfl | exact .inr rfl) : PG X (.Name x pos) (gT X.K (.nm i)) := by
  unfold gT
  exact pg_name hN hi hx hf
theorem ts_nil : PGs X [] (gTs X.K []) := by
  unfold gTs
  exact pgs_nil
theorem ts_cons {t : Tg} {ts : List Tg} (h1 : PG X e (gT X.K t)) (h2 : PGs X es (gTs X.K ts)) (hs : (assignEach (e :: es) X.env).map (·.2) = assign e X.env :: (assignEach es X.env).map (·.2) := by rfl) : PGs X (e :: es) (gTs X.K (t :: ts)) := by
  unfold gTs
  exact pgs_cons h1 h2 hs
theorem t_tp {q : Nat} {ts : List Tg} (hc : X.calm = true) (h : PGs X es (gTs X.K ts)) (hn : (assignEach es X.env).length = ts.length := by rfl) (hst : (assignEach es X.env).findIdx? (·.1) = none := by rfl) : PG X (.Tuple es q pos) (gT X.K (.tp ts)) := by
  unfold gT
  exact pg_tup hc h hn hst
theorem units65 {A : Around} (r : Room k A) : A.units + 65 < cLine := by have := r.un; omega
theorem passN : PassesOwn (model X.prog X.w) X.A X.env fun _ _ => False := PassesOwn.never
end
theorem tup_k {K : PySem.W.Frag} {H : Hp} {a : Addr} {its : List Value} {n : Nat} {xs : List V} (h : K.lookup a = some { cls := .type "tuple", data := .seq its.toArray n }) (hz : its.length ≤ sizeLine) (r : Vals xs its) : SqT K H a xs := .inr ⟨_, its.toArray, n, h, rfl, rfl, by rw [List.size_toArray]; exact hz, by simpa using r⟩
/-- the built-ins whose names the text leaves alone -/
def Free (mg : Str → Option Value) (xs : List Str) : Prop := ∀ x ∈ xs, mg x = none
end E
/-! V0: what a call gives, without the callee's own state. -/
namespace E
open PySem PySem.Spec PyProof.Rows L2

inductive Rv where
  | sh (d : D)
  | arg (i : Nat)
  | new (ds : List D)
/-- the result, and the argument lists behind the call -/
def outF (F : FT) (ps : List R) (io : List Cell) : Option (Rv × List Cell) := match F ps io with
  | .ok r s' => (match r with
    | .sh d => some (Rv.sh d)
    | .own c => if c < io.length then some (Rv.arg c) else (match s'.cellAt c with
      | .lv ds => some (Rv.new ds)
      | .fz ds => some (Rv.sh (.list ds))
      | _ => none) : Option Rv).map fun v => (v, (List.range io.length).map s'.cellAt)
  | _ => none
def wbO : List Pa → List Cell → S → S
  | .io c x :: L, y :: io, s => wbO L io (s.put c (norm x y))
  | _ :: L, _ :: io, s => wbO L io s
  | _, _, s => s
def fineO (lent : Bool) : List Pa → List Cell → Bool
  | .io _ _ :: L, y :: io => (match y with
    | .dead => false
    | y => !lent || atomDs y.list) && fineO lent L io
  | _ :: L, _ :: io => fineO lent L io
  | _, _ => true
def retO (L : List Pa) (v : Rv) (io : List Cell) (s : S) : Res R :=
  if fineO (lentIn L) L io = true then (match v with
    | .sh d => if (!lentIn L || atomD d) = true then .ok (.sh d) (wbO L io s) else .bad
    | .arg c => (match L[c]? with
        | some (.io c' _) => .ok (.own c') (wbO L io s)
        | _ => .bad)
    | .new ds => if (!lentIn L || atomDs ds) = true then .ok (.own s.ce.length) ((wbO L io s).push (.lv ds)) else .bad)
  else .bad
section
variable {s s' : S}
theorem wb_eq : ∀ (L : List Pa) (i : Nat) (s : S), wb L i s' s = wbO L ((List.range' i L.length).map s'.cellAt) s
  | [], _, _ => rfl
  | pa :: L, i, s => by
    rw [List.length_cons, List.range'_succ, List.map_cons]
    cases pa with
    | io c x => unfold wb wbO; exact wb_eq L (i + 1) _
    | sh d => unfold wb wbO; exact wb_eq L (i + 1) _
    | lent c ds => unfold wb wbO; exact wb_eq L (i + 1) _
theorem fine_eq {b : Bool} : ∀ (L : List Pa) (i : Nat), ioFine b L i s' = fineO b L ((List.range' i L.length).map s'.cellAt)
  | [], _ => rfl
  | pa :: L, i => by
    rw [List.length_cons, List.range'_succ, List.map_cons]
    cases pa with
    | io c x =>
      unfold ioFine fineO
      rw [fine_eq L (i + 1)]
      cases s'.cellAt i <;> rfl
    | sh d => unfold ioFine fineO; exact fine_eq L (i + 1)
    | lent c ds => unfold ioFine fineO; exact fine_eq L (i + 1)
theorem callD_eq (md : List Bool) (F : FT) (rs : List R) (s : S) : callD md F rs s = match passL s md rs with
    | some L => if apart L = true then (match outF F (psOf L) (ioOf L) with
      | some (v, io) => retO L v io s
      | none => .bad) else .bad
    | none => .bad := by
  unfold callD
  cases e : passL s md rs with
  | none => rfl
  | some L =>
    try dsimp only
    split
    · unfold outF
      cases eF : F (psOf L) (ioOf L) with
      | bad => rfl
      | exc x s' => rfl
      | ok r s' =>
        try dsimp only
        have hl : (ioOf L).length = L.length := io_len
        have e1 := wb_eq (s' := s') L 0 s
        have e2 := fine_eq (s' := s') (b := lentIn L) L 0
        rw [← List.range_eq_range'] at e1 e2
        unfold retR
        rw [hl]
        cases r with
        | sh d =>
          dsimp only [Option.map]
          unfold retO
          try dsimp only
          rw [e1, e2]
        | own c =>
          try dsimp only
          by_cases hc : c < L.length
          · rw [if_pos hc]
            dsimp only [Option.map]
            unfold retO
            try dsimp only
            rw [if_pos hc, e1, e2]
            try rfl
          · rw [if_neg hc]
            cases ec : s'.cellAt c with
            | dead => dsimp only [Option.map]; rw [if_neg hc]; split <;> rfl
            | lk ds => dsimp only [Option.map]; rw [if_neg hc]; split <;> rfl
            | lv ds =>
              dsimp only [Option.map]
              unfold retO
              try dsimp only
              rw [if_neg hc, e1, e2]
            | fz ds =>
              dsimp only [Option.map]
              unfold retO
              try dsimp only
              rw [if_neg hc, e1, e2]
              by_cases hf : fineO (lentIn L) L (List.map s'.cellAt (List.range L.length)) = true
              · rw [if_pos hf]
                show _ = ite _ _ _
                rw [if_pos hf]
                cases lentIn L <;> rfl
              · rw [if_neg hf]
                show _ = ite _ _ _
                rw [if_neg hf]
    · rfl
end
def idxD (d : D) (i : Int) (s : S) : Res R := idxR (.sh d) (.sh (.int i)) s
theorem idx_sh (d : D) (i : Int) (s : S) : idxR (.sh d) (.sh (.int i)) s = idxD d i s := rfl
theorem idx_own (c : Nat) (i : Int) (s : S) : idxR (.own c) (.sh (.int i)) s = (match s.look (.own c) with
  | some d => idxD d i s
  | none => .bad) := by
  unfold idxD idxR
  cases s.look (.own c) <;> rfl
theorem idxD_list (ds : List D) (i : Int) (s : S) : idxD (.list ds) i s = (match atD ds i with
  | some d => .ok (.sh d) s
  | none => .bad) := rfl
theorem idxD_tuple (ds : List D) (i : Int) (s : S) : idxD (.tuple ds) i s = (match atD ds i with
  | some d => .ok (.sh d) s
  | none => .bad) := rfl
theorem sz_le {n : Nat} (h : n ≤ 100000) : (n ≤ sizeLine) = True := eq_true (Nat.le_trans h (by decide))
theorem sz_lt {n : Nat} (h : n < 100000) : (n < sizeLine) = True := eq_true (Nat.lt_of_lt_of_le h (by decide))
def rngO (g : List Int → S → Res (List D × List Nat)) (o : Option (List Int)) (s : S) : Res (List D × List Nat) := match o with
  | some is => g is s
  | none => .bad
theorem rngI_def (g : List Int → S → Res (List D × List Nat)) (f : AS) (s : S) : rngI g f s = (f s).bind fun rs s1 => rngO g (s1.ints rs) s1 := rfl
theorem rngO_some (g : List Int → S → Res (List D × List Nat)) (is : List Int) (s : S) : rngO g (some is) s = g is s := rfl
theorem rng1_eq {j : Int} {s : S} (h : small62 j) : rng1 [j] s = .ok (rngD 0 1 j.toNat, []) s := by
  unfold rng1
  exact if_pos h
theorem rng2_eq {i j : Int} {s : S} (h : small62 i) (h2 : small62 j) : rng2 [i, j] s = .ok (rngD i 1 (j - i).toNat, []) s := by
  unfold rng2
  exact if_pos ⟨h, h2⟩
/-- a turn of a loop that goes on -/
def turnS (g : Tg) (dr : List Nat) (body : SS) (d : D) (s : S) : Option S := match setT g d s with
  | none => none
  | some s1 => match body s1 with
    | .ok .nx s2 => some (s2.clean dr)
    | .ok .ct s2 => some (s2.clean dr)
    | _ => none
theorem loop_ind {g : Tg} {dr : List Nat} {body : SS} {cs : List Nat} : ∀ {ds : List D} {s : S} (P : Nat → S → Prop) (j : Nat), (∀ i d s, ds[i]? = some d → P (j + i) s → ∃ s', turnS g dr body d s = some s' ∧ P (j + i + 1) s') → P j s →
    ∃ sf, P (j + ds.length) sf ∧ loopS g dr body cs ds s = doneS (sf.unl cs)
  | [], s, P, j, _, h0 => ⟨s, h0, rfl⟩
  | d :: ds, s, P, j, hs, h0 => by
    obtain ⟨s', e1, h1⟩ := hs 0 d s rfl h0
    obtain ⟨sf, h2, e3⟩ := loop_ind (g := g) (dr := dr) (body := body) (cs := cs) (ds := ds) (s := s') P (j + 1) (fun i d' s' hi hp => by
      have := hs (i + 1) d' s' (by simpa using hi) (by rw [show j + (i + 1) = j + 1 + i by omega]; exact hp)
      rw [show j + (i + 1) + 1 = j + 1 + i + 1 by omega] at this
      exact this) (by simpa using h1)
    refine ⟨sf, by rw [List.length_cons, show j + (ds.length + 1) = j + 1 + ds.length by omega]; exact h2, ?_⟩
    unfold loopS
    unfold turnS at e1
    cases es : setT g d s with
    | none => rw [es] at e1; cases e1
    | some s1 =>
      rw [es] at e1
      dsimp only at e1 ⊢
      cases eb : body s1 with
      | bad => rw [eb] at e1; cases e1
      | exc x s2 => rw [eb] at e1; cases e1
      | ok a s2 =>
        rw [eb] at e1
        cases a with
        | nx => cases e1; exact e3
        | ct => cases e1; exact e3
        | bk => cases e1
        | rt r => cases e1
theorem loop_at {g : Tg} {dr : List Nat} {body : SS} {cs : List Nat} {ds : List D} (P : Nat → S → Prop) {s : S} (hs : ∀ i d s, ds[i]? = some d → P i s → ∃ s', turnS g dr body d s = some s' ∧ P (i + 1) s') (h0 : P 0 s) : ∃ sf, P ds.length sf ∧ loopS g dr body cs ds s = doneS (sf.unl cs) := by
  have := loop_ind (g := g) (dr := dr) (body := body) (cs := cs) (ds := ds) (s := s) P 0 (fun i d s h p => by rw [Nat.zero_add] at *; exact hs i d s h p) h0
  rwa [Nat.zero_add] at this
theorem loop_eq {g : Tg} {dr : List Nat} {body : SS} {cs : List Nat} {ds : List D} (st : Nat → S) (hs : ∀ i d, ds[i]? = some d → turnS g dr body d (st i) = some (st (i + 1))) : loopS g dr body cs ds (st 0) = doneS ((st ds.length).unl cs) := by
  obtain ⟨sf, e1, e2⟩ := loop_at (g := g) (dr := dr) (body := body) (cs := cs) (ds := ds) (fun i s => s = st i) (s := st 0) (fun i d s h e => ⟨st (i + 1), by subst e; exact hs i d h, rfl⟩) rfl
  rw [e2, e1]
theorem rng_at' {lo c : Int} {n i : Nat} {d : D} (h : (rngD lo c n)[i]? = some d) : i < n ∧ d = .int (lo + (i : Nat) * c) := by
  have hi : i < n := by
    have := (List.getElem?_eq_some_iff.mp h).1
    simpa [rngD] using this
  rw [rngD_get hi] at h
  exact ⟨hi, (Option.some.inj h).symm⟩
theorem rng_len {lo c : Int} {n : Nat} : (rngD lo c n).length = n := by simp [rngD]
theorem small_nat {n : Nat} (h : n < 2 ^ 62) : small62 (n : Int) := ⟨by omega, by omega⟩
end E
/-! V1: the helpers that many laws share. -/
namespace E
open PySem PySem.Spec PyProof.Rows L2
/-- a draw: what is left, the seed, the count -/
structure Src (b l q k : Int) : Prop where
  l0 : 0 ≤ l
  q0 : 0 ≤ q
  q1 : q < 2 ^ 62
  k0 : 0 ≤ k
  k1 : k ≤ b
noncomputable def d_source : FT := runF 4 (seqS (setS 2 (iteS (boolT (bin2 ltR (varS 1) (E.callG (g1 lenD) (consA (varS 0) nilA)))) (bin2 idxR (varS 0) (varS 1)) (litS (.int 0))))
 (seqS (setS 3 (iteS (boolT (bin2 geR (E.callG (g1 absD) (consA (varS 2) nilA)) (bin2 powR (litS (.int 10)) (litS (.int 18))))) (bin2 subR (E.callG (g1 absD) (consA (varS 2) nilA)) (bin2 powR (litS (.int 10)) (litS (.int 18)))) (litS (.int 0))))
 (retS (lstS (consA (varS 3) (consA (bin2 addR (bin2 modR (E.callG (g1 intD) (consA (varS 2) nilA)) (litS (.int 2305843009213693951))) (bin2 mulR (litS (.int 1000003)) (varS 1))) (consA (litS (.int 0)) nilA)))))))
theorem ten18 : cPow 10 18 := by decide +kernel
theorem source_ok (ns : List Int) (k : Nat) (hk : k < 1000) : ∃ l q : Int, Src 0 l q 0 ∧ outF d_source [.sh (.list (ns.map PyData.int)), .sh (.int k)] [.dead, .dead] = some (.new [.int l, .int q, .int 0], [.dead, .dead]) := by
  have hm : cMul 1000003 (k : Int) := by
    unfold cMul
    have : (k : Int).natAbs.log2 ≤ 10 := by
      rw [Int.natAbs_natCast]
      have := Nat.log2_lt (n := k) (k := 10)
      by_cases h0 : k = 0
      · subst h0; decide
      · have := (this h0).mpr (by omega); omega
    have h2 : (1000003 : Int).natAbs.log2 = 19 := by decide +kernel
    omega
  unfold outF d_source
  obtain ⟨x, hx⟩ : ∃ x : Int, (ns[k]? = some x ∧ (k : Int) < (ns.length : Int)) ∨ (x = 0 ∧ ¬ (k : Int) < (ns.length : Int)) := by
    by_cases h : (k : Int) < (ns.length : Int)
    · exact ⟨ns[k]'(by omega), .inl ⟨List.getElem?_eq_getElem _, h⟩⟩
    · exact ⟨0, .inr ⟨rfl, h⟩⟩
  · generalize ha : (if x < 0 then -x else x) = a
    refine ⟨if 1000000000000000000 ≤ a then a - 1000000000000000000 else 0, x % 2305843009213693951 + 1000003 * k, ⟨?_, ?_, ?_, Int.le_refl _, Int.le_refl _⟩, ?_⟩
    · split <;> omega
    · have := Int.emod_nonneg x (show (2305843009213693951 : Int) ≠ 0 by decide); omega
    · have := Int.emod_lt_of_pos x (show (0 : Int) < 2305843009213693951 by decide); omega
    · rcases hx with ⟨e, h⟩ | ⟨rfl, h⟩
      · by_cases hb : 1000000000000000000 ≤ a <;> simp [runF, ent, seqS, setS, ifS, iteS, boolT, truS, notT, andT, orT, bin2, un1, varS, litS, E.callG, g1, g2, consA, nilA, idx_sh, idx_own, idxD_list, idxD_tuple, S.look, S.cellAt, asg0, doneS, S.tr, S.base, Res.bind_ok, Res.bind_bad, retS, retN, lstS, tupS, S.frz, S.frzs, intR, addR, mulR, negR, isNR, notR, isiR, isD, truD, truOk, lenD, intD, absD, max2D, min2D, exprS, skipS, subS, putIx, putAt, augS, iaddR, andV, orV, chainS, methS, appR, S.isL, S.push, S.put, S.loneC, atD, L2.atI, ixN, sz_le, sz_lt, callF, callD_eq, pick, passL, pass1, apart, psOf, ioOf, Pa.r, Pa.cell, Pa.ioc, Pa.lc, retO, fineO, wbO, norm, lentIn, atomD, atomDs, Cell.list, List.range, List.range.loop, List.filterMap_cons, List.filterMap_nil, turnS, setT, setTs, S.clean, S.forget, List.foldl_cons, List.foldl_nil, rngI_def, rngO_some, S.ints, S.int, rng1_eq, rng2_eq, forS, par2S, par3S, waits, isNone, listD, h, e, ten18, hm, ha, hb]
      · have ha0 : a = 0 := by rw [← ha]; rfl
        subst ha0
        simp [runF, ent, seqS, setS, ifS, iteS, boolT, truS, notT, andT, orT, bin2, un1, varS, litS, E.callG, g1, g2, consA, nilA, idx_sh, idx_own, idxD_list, idxD_tuple, S.look, S.cellAt, asg0, doneS, S.tr, S.base, Res.bind_ok, Res.bind_bad, retS, retN, lstS, tupS, S.frz, S.frzs, intR, addR, mulR, negR, isNR, notR, isiR, isD, truD, truOk, lenD, intD, absD, max2D, min2D, exprS, skipS, subS, putIx, putAt, augS, iaddR, andV, orV, chainS, methS, appR, S.isL, S.push, S.put, S.loneC, atD, L2.atI, ixN, sz_le, sz_lt, callF, callD_eq, pick, passL, pass1, apart, psOf, ioOf, Pa.r, Pa.cell, Pa.ioc, Pa.lc, retO, fineO, wbO, norm, lentIn, atomD, atomDs, Cell.list, List.range, List.range.loop, List.filterMap_cons, List.filterMap_nil, turnS, setT, setTs, S.clean, S.forget, List.foldl_cons, List.foldl_nil, rngI_def, rngO_some, S.ints, S.int, rng1_eq, rng2_eq, forS, par2S, par3S, waits, isNone, listD, h, ten18, hm]
noncomputable def d_draw : FT := runF 4 (seqS (ifS (boolT (bin2 gtR (bin2 idxR (varS 0) (litS (.int 0))) (litS (.int 0))))
 (seqS (setS 2 (bin2 modR (E.callG (g1 intD) (consA (bin2 idxR (varS 0) (litS (.int 0))) nilA)) (varS 1)))
 (seqS (subS (varS 0) (litS (.int 0)) (bin2 fdivR (bin2 idxR (varS 0) (litS (.int 0))) (varS 1)))
 (retS (varS 2))))
 skipS)
 (seqS (subS (varS 0) (litS (.int 2)) (bin2 addR (bin2 idxR (varS 0) (litS (.int 2))) (litS (.int 1))))
 (seqS (setS 3 (bin2 addR (bin2 idxR (varS 0) (litS (.int 1))) (bin2 mulR (litS (.int 2750159)) (bin2 idxR (varS 0) (litS (.int 2))))))
 (seqS (setS 3 (bin2 addR (bin2 modR (E.callG (g1 intD) (consA (bin2 powR (varS 3) (litS (.int 3))) nilA)) (bin2 addR (bin2 powR (litS (.int 10)) (litS (.int 38))) (litS (.int 133)))) (bin2 mulR (litS (.int 7368787)) (bin2 idxR (varS 0) (litS (.int 2))))))
 (seqS (setS 3 (bin2 modR (E.callG (g1 intD) (consA (bin2 powR (varS 3) (litS (.int 3))) nilA)) (bin2 addR (bin2 powR (litS (.int 10)) (litS (.int 41))) (litS (.int 217)))))
 (retS (bin2 modR (E.callG (g1 intD) (consA (bin2 fdivR (varS 3) (litS (.int 1000003))) nilA)) (varS 1))))))))
theorem log_small {n : Nat} {b : Nat} (h : n < 2 ^ (b + 1)) : n.log2 ≤ b := by
  by_cases h0 : n = 0
  · subst h0; simp
  · have := (Nat.log2_lt h0).mpr h
    omega
theorem draw_ok {b l q k m : Int} (h : Src b l q k) (hb : b < 2 ^ 59) (hm : 0 < m) (hm2 : m < 2 ^ 200) : ∃ r l' k', 0 ≤ r ∧ r < m ∧ Src (b + 1) l' q k' ∧
    outF d_draw [.own 0, .sh (.int m)] [.lv [.int l, .int q, .int k], .dead] = some (.sh (.int r), [.lv [.int l', .int q, .int k'], .dead]) := by
  have hml : m.natAbs.log2 < 9000 := by
    have : m.natAbs < 2 ^ (199 + 1) := by omega
    have := log_small this
    omega
  unfold outF d_draw
  by_cases hl : 0 < l
  · refine ⟨l % m, l / m, k, Int.emod_nonneg _ (by omega), Int.emod_lt_of_pos _ hm, ⟨Int.ediv_nonneg h.l0 (by omega), h.q0, h.q1, h.k0, by have := h.k1; omega⟩, ?_⟩
    have hc : cDiv l m := ⟨hm, hml⟩
    simp [runF, ent, seqS, setS, ifS, iteS, boolT, truS, notT, andT, orT, bin2, un1, varS, litS, E.callG, g1, g2, consA, nilA, idx_sh, idx_own, idxD_list, idxD_tuple, S.look, S.cellAt, asg0, doneS, S.tr, S.base, Res.bind_ok, Res.bind_bad, retS, retN, lstS, tupS, S.frz, S.frzs, intR, addR, mulR, negR, isNR, notR, isiR, isD, truD, truOk, lenD, intD, absD, max2D, min2D, exprS, skipS, subS, putIx, putAt, augS, iaddR, andV, orV, chainS, methS, appR, S.isL, S.push, S.put, S.loneC, atD, L2.atI, ixN, sz_le, sz_lt, callF, callD_eq, pick, passL, pass1, apart, psOf, ioOf, Pa.r, Pa.cell, Pa.ioc, Pa.lc, retO, fineO, wbO, norm, lentIn, atomD, atomDs, Cell.list, List.range, List.range.loop, List.filterMap_cons, List.filterMap_nil, turnS, setT, setTs, S.clean, S.forget, List.foldl_cons, List.foldl_nil, rngI_def, rngO_some, S.ints, S.int, rng1_eq, rng2_eq, forS, par2S, par3S, waits, isNone, listD, hl, hm, hc]
  · have hpow : ∀ x : Int, 0 ≤ x → x < 2 ^ 200 → cPow x 3 := fun x h0 h1 => by
      have : x.natAbs < 2 ^ (199 + 1) := by omega
      have := log_small this
      refine ⟨by decide, ?_⟩
      show (x.natAbs.log2 + 1) * 3 ≤ 1000000
      omega
    have hmul : ∀ x y : Int, 0 ≤ x → x < 2 ^ 60 → 0 ≤ y → y < 2 ^ 61 → cMul x y := fun x y h0 h1 h2 h3 => by
      have := log_small (show x.natAbs < 2 ^ (59 + 1) by omega)
      have := log_small (show y.natAbs < 2 ^ (60 + 1) by omega)
      unfold cMul
      omega
    have k0 := h.k0
    have k1 := h.k1
    have q0 := h.q0
    have q1 := h.q1
    have c1 : cMul 2750159 (k + 1) := hmul _ _ (by decide) (by decide) (by omega) (by omega)
    have c2 : cMul 7368787 (k + 1) := hmul _ _ (by decide) (by decide) (by omega) (by omega)
    have p1 : cPow (q + 2750159 * (k + 1)) 3 := hpow _ (by omega) (by omega)
    generalize hA : (q + 2750159 * (k + 1)) ^ 3 = A
    have e1 := Int.emod_nonneg A (show (100000000000000000000000000000000000133 : Int) ≠ 0 by decide)
    have e2 := Int.emod_lt_of_pos A (show (0 : Int) < 100000000000000000000000000000000000133 by decide)
    have p2 : cPow (A % 100000000000000000000000000000000000133 + 7368787 * (k + 1)) 3 := hpow _ (by omega) (by omega)
    generalize hB : (A % 100000000000000000000000000000000000133 + 7368787 * (k + 1)) ^ 3 = B
    have p38 : cPow 10 38 := by decide +kernel
    have p41 : cPow 10 41 := by decide +kernel
    have d1 : ∀ x, cDiv x 1000003 := fun x => ⟨by decide, by show Nat.log2 1000003 < 9000; decide +kernel⟩
    refine ⟨B % 100000000000000000000000000000000000000217 / 1000003 % m, l, k + 1, Int.emod_nonneg _ (by omega), Int.emod_lt_of_pos _ hm, ⟨h.l0, h.q0, h.q1, by omega, by omega⟩, ?_⟩
    simp [runF, ent, seqS, setS, ifS, iteS, boolT, truS, notT, andT, orT, bin2, un1, varS, litS, E.callG, g1, g2, consA, nilA, idx_sh, idx_own, idxD_list, idxD_tuple, S.look, S.cellAt, asg0, doneS, S.tr, S.base, Res.bind_ok, Res.bind_bad, retS, retN, lstS, tupS, S.frz, S.frzs, intR, addR, mulR, negR, isNR, notR, isiR, isD, truD, truOk, lenD, intD, absD, max2D, min2D, exprS, skipS, subS, putIx, putAt, augS, iaddR, andV, orV, chainS, methS, appR, S.isL, S.push, S.put, S.loneC, atD, L2.atI, ixN, sz_le, sz_lt, callF, callD_eq, pick, passL, pass1, apart, psOf, ioOf, Pa.r, Pa.cell, Pa.ioc, Pa.lc, retO, fineO, wbO, norm, lentIn, atomD, atomDs, Cell.list, List.range, List.range.loop, List.filterMap_cons, List.filterMap_nil, turnS, setT, setTs, S.clean, S.forget, List.foldl_cons, List.foldl_nil, rngI_def, rngO_some, S.ints, S.int, rng1_eq, rng2_eq, forS, par2S, par3S, waits, isNone, listD, hl, hm, c1, c2, p1, hA, p2, hB, p38, p41, d1]
noncomputable def d_shape : FT := runF 2 (seqS (setS 1 (bin2 idxR (lstS (consA (litS (.str "none")) (consA (litS (.str "even")) (consA (litS (.str "odd")) nilA)))) (callF [true, false] d_draw 2 0 [0, 1] [] (consA (varS 0) (consA (litS (.int 3)) nilA)) nilA)))
 (retS (tupS (consA (bin2 addR (litS (.int 1)) (callF [true, false] d_draw 2 0 [0, 1] [] (consA (varS 0) (consA (litS (.int 9)) nilA)) nilA)) (consA (varS 1) (consA (bin2 addR (litS (.int 1)) (callF [true, false] d_draw 2 0 [0, 1] [] (consA (varS 0) (consA (litS (.int 2)) nilA)) nilA)) nilA))))))
def par (i : Nat) : Str := if i = 0 then "none" else if i = 1 then "even" else "odd"
/-- a shape: its number of bits, its parity, its stops -/
def shp (n p t : Nat) : D := .tuple [.int n, .str (par p), .int t]
theorem shape_ok {b l q k : Int} (h : Src b l q k) (hb : b < 2 ^ 58) : ∃ n p t : Nat, ∃ l' k', 1 ≤ n ∧ n ≤ 9 ∧ p < 3 ∧ 1 ≤ t ∧ t ≤ 2 ∧ Src (b + 3) l' q k' ∧ outF d_shape [.own 0] [.lv [.int l, .int q, .int k]] = some (.sh (shp n p t), [.lv [.int l', .int q, .int k']]) := by
  obtain ⟨r1, l1, k1, a1, a2, s1, e1⟩ := draw_ok (m := 3) h (by omega) (by decide) (by decide)
  obtain ⟨r2, l2, k2, b1, b2, s2, e2⟩ := draw_ok (m := 9) s1 (by omega) (by decide) (by decide)
  obtain ⟨r3, l3, k3, c1, c2, s3, e3⟩ := draw_ok (m := 2) s2 (by omega) (by decide) (by decide)
  obtain ⟨p, rfl⟩ := Int.eq_ofNat_of_zero_le a1
  obtain ⟨n, rfl⟩ := Int.eq_ofNat_of_zero_le b1
  obtain ⟨t, rfl⟩ := Int.eq_ofNat_of_zero_le c1
  refine ⟨1 + n, p, 1 + t, l3, k3, by omega, by omega, by omega, by omega, by omega, ⟨s3.l0, s3.q0, s3.q1, s3.k0, by have := s3.k1; omega⟩, ?_⟩
  unfold outF d_shape
  have hp : p = 0 ∨ p = 1 ∨ p = 2 := by omega
  rcases hp with rfl | rfl | rfl <;> simp [runF, ent, seqS, setS, ifS, iteS, boolT, truS, notT, andT, orT, bin2, un1, varS, litS, E.callG, g1, g2, consA, nilA, idx_sh, idx_own, idxD_list, idxD_tuple, S.look, S.cellAt, asg0, doneS, S.tr, S.base, Res.bind_ok, Res.bind_bad, retS, retN, lstS, tupS, S.frz, S.frzs, intR, addR, mulR, negR, isNR, notR, isiR, isD, truD, truOk, lenD, intD, absD, max2D, min2D, exprS, skipS, subS, putIx, putAt, augS, iaddR, andV, orV, chainS, methS, appR, S.isL, S.push, S.put, S.loneC, atD, L2.atI, ixN, sz_le, sz_lt, callF, callD_eq, pick, passL, pass1, apart, psOf, ioOf, Pa.r, Pa.cell, Pa.ioc, Pa.lc, retO, fineO, wbO, norm, lentIn, atomD, atomDs, Cell.list, List.range, List.range.loop, List.filterMap_cons, List.filterMap_nil, turnS, setT, setTs, S.clean, S.forget, List.foldl_cons, List.foldl_nil, rngI_def, rngO_some, S.ints, S.int, rng1_eq, rng2_eq, forS, par2S, par3S, waits, isNone, listD, e1, e2, e3, shp, par]
end E
/-! V2: loops; texts of numbers. -/
namespace E
open PySem PySem.Spec PyProof.Rows L2
noncomputable def d_text : FT := runF 6 (seqS (setS 3 (litS (.int 1)))
 (seqS (forS (rngI rng1 (consA (bin2 idxR (varS 1) (litS (.int 0))) nilA)) (.nm 4) [1, 4, 5]
 (setS 3 (bin2 mulR (litS (.int 2)) (varS 3))))
 (seqS (setS 5 (lstS nilA))
 (seqS (forS (rngI rng1 (consA (varS 2) nilA)) (.nm 4) [1, 2, 4]
 (exprS (methS appR (varS 5) (consA (bin2 idxR (lstS (consA (litS (.int 0)) (consA (bin2 subR (varS 3) (litS (.int 1))) (consA (callF [true, false] d_draw 2 0 [0, 1] [] (consA (varS 0) (consA (varS 3) nilA)) nilA) (consA (callF [true, false] d_draw 2 0 [0, 1] [] (consA (varS 0) (consA (varS 3) nilA)) nilA) nilA))))) (callF [true, false] d_draw 2 0 [0, 1] [] (consA (varS 0) (consA (litS (.int 4)) nilA)) nilA)) nilA))))
 (retS (varS 5))))))
def nums (xs : List Nat) : List D := xs.map fun (x : Nat) => PyData.int (x : Int)
theorem two_loop (n p t : Nat) (hn : n ≤ 9) (src : List D) (m : Int) : forS (rngI rng1 (consA (bin2 idxR (varS 1) (litS (.int 0))) nilA)) (.nm 4) [1, 4, 5] (setS 3 (bin2 mulR (litS (.int 2)) (varS 3)))
    ⟨[some (.own 0), some (.sh (shp n p t)), some (.sh (.int m)), some (.sh (.int 1)), none, none], [.lv src, .dead, .dead, .dead, .dead, .dead, .dead, .dead, .dead], 3⟩ =
    .ok .nx ⟨[some (.own 0), none, some (.sh (.int m)), some (.sh (.int ((2 ^ n : Nat) : Int))), none, none], [.lv src, .dead, .dead, .dead, .dead, .dead, .dead, .dead, .dead], 3⟩ := by
  have hs : small62 (n : Int) := small_nat (by omega)
  have e := loop_eq (g := .nm 4) (dr := [1, 4, 5]) (body := setS 3 (bin2 mulR (litS (.int 2)) (varS 3))) (cs := []) (ds := rngD 0 1 n)
    (fun i => ⟨[some (.own 0), none, some (.sh (.int m)), some (.sh (.int ((2 ^ i : Nat) : Int))), none, none], [.lv src, .dead, .dead, .dead, .dead, .dead, .dead, .dead, .dead], 3⟩) (fun i d hi => by
      obtain ⟨hi, rfl⟩ := rng_at' hi
      have hm : cMul 2 ((2 ^ i : Nat) : Int) := by
        unfold cMul
        rw [Int.natAbs_natCast, Nat.log2_two_pow]
        have : (2 : Int).natAbs.log2 = 1 := by decide +kernel
        omega
      have e2 : ((2 ^ (i + 1) : Nat) : Int) = (2 : Int) * ((2 ^ i : Nat) : Int) := by rw [Nat.pow_succ]; push_cast; omega
      rw [e2]
      generalize ((2 ^ i : Nat) : Int) = z at hm ⊢
      simp [runF, ent, seqS, setS, ifS, iteS, boolT, truS, notT, andT, orT, bin2, un1, varS, litS, E.callG, g1, g2, consA, nilA, idx_sh, idx_own, idxD_list, idxD_tuple, S.look, S.cellAt, asg0, doneS, S.tr, S.base, Res.bind_ok, Res.bind_bad, retS, retN, lstS, tupS, S.frz, S.frzs, intR, addR, mulR, negR, isNR, notR, isiR, isD, truD, truOk, lenD, intD, absD, max2D, min2D, exprS, skipS, subS, putIx, putAt, augS, iaddR, andV, orV, chainS, methS, appR, S.isL, S.push, S.put, S.loneC, atD, L2.atI, ixN, sz_le, sz_lt, callF, callD_eq, pick, passL, pass1, apart, psOf, ioOf, Pa.r, Pa.cell, Pa.ioc, Pa.lc, retO, fineO, wbO, norm, lentIn, atomD, atomDs, Cell.list, List.range, List.range.loop, List.filterMap_cons, List.filterMap_nil, turnS, setT, setTs, S.clean, S.forget, List.foldl_cons, List.foldl_nil, rngI_def, rngO_some, S.ints, S.int, rng1_eq, rng2_eq, forS, par2S, par3S, waits, isNone, listD, hm])
  rw [rng_len] at e
  refine Eq.trans ?_ (e.trans ?_)
  · simp [runF, ent, seqS, setS, ifS, iteS, boolT, truS, notT, andT, orT, bin2, un1, varS, litS, E.callG, g1, g2, consA, nilA, idx_sh, idx_own, idxD_list, idxD_tuple, S.look, S.cellAt, asg0, doneS, S.tr, S.base, Res.bind_ok, Res.bind_bad, retS, retN, lstS, tupS, S.frz, S.frzs, intR, addR, mulR, negR, isNR, notR, isiR, isD, truD, truOk, lenD, intD, absD, max2D, min2D, exprS, skipS, subS, putIx, putAt, augS, iaddR, andV, orV, chainS, methS, appR, S.isL, S.push, S.put, S.loneC, atD, L2.atI, ixN, sz_le, sz_lt, callF, callD_eq, pick, passL, pass1, apart, psOf, ioOf, Pa.r, Pa.cell, Pa.ioc, Pa.lc, retO, fineO, wbO, norm, lentIn, atomD, atomDs, Cell.list, List.range, List.range.loop, List.filterMap_cons, List.filterMap_nil, turnS, setT, setTs, S.clean, S.forget, List.foldl_cons, List.foldl_nil, rngI_def, rngO_some, S.ints, S.int, rng1_eq, rng2_eq, forS, par2S, par3S, waits, isNone, listD, hs, shp]
  · simp [runF, ent, seqS, setS, ifS, iteS, boolT, truS, notT, andT, orT, bin2, un1, varS, litS, E.callG, g1, g2, consA, nilA, idx_sh, idx_own, idxD_list, idxD_tuple, S.look, S.cellAt, asg0, doneS, S.tr, S.base, Res.bind_ok, Res.bind_bad, retS, retN, lstS, tupS, S.frz, S.frzs, intR, addR, mulR, negR, isNR, notR, isiR, isD, truD, truOk, lenD, intD, absD, max2D, min2D, exprS, skipS, subS, putIx, putAt, augS, iaddR, andV, orV, chainS, methS, appR, S.isL, S.push, S.put, S.loneC, atD, L2.atI, ixN, sz_le, sz_lt, callF, callD_eq, pick, passL, pass1, apart, psOf, ioOf, Pa.r, Pa.cell, Pa.ioc, Pa.lc, retO, fineO, wbO, norm, lentIn, atomD, atomDs, Cell.list, List.range, List.range.loop, List.filterMap_cons, List.filterMap_nil, turnS, setT, setTs, S.clean, S.forget, List.foldl_cons, List.foldl_nil, rngI_def, rngO_some, S.ints, S.int, rng1_eq, rng2_eq, forS, par2S, par3S, waits, isNone, listD, S.unl]
theorem fill_loop (mx : Nat) (hx : 0 < mx) (hx2 : mx < 2 ^ 100) {b l q k : Int} (h : Src b l q k) (m : Nat) (hb : b + 3 * m < 2 ^ 58) (hm : m ≤ 1000) : ∃ xs l' k', xs.length = m ∧ (∀ x ∈ xs, x < mx) ∧ Src (b + 3 * m) l' q k' ∧
    forS (rngI rng1 (consA (varS 2) nilA)) (.nm 4) [1, 2, 4]
 (exprS (methS appR (varS 5) (consA (bin2 idxR (lstS (consA (litS (.int 0)) (consA (bin2 subR (varS 3) (litS (.int 1))) (consA (callF [true, false] d_draw 2 0 [0, 1] [] (consA (varS 0) (consA (varS 3) nilA)) nilA) (consA (callF [true, false] d_draw 2 0 [0, 1] [] (consA (varS 0) (consA (varS 3) nilA)) nilA) nilA))))) (callF [true, false] d_draw 2 0 [0, 1] [] (consA (varS 0) (consA (litS (.int 4)) nilA)) nilA)) nilA)))
    ⟨[some (.own 0), none, some (.sh (.int m)), some (.sh (.int mx)), none, some (.own 8)], [.lv [.int l, .int q, .int k], .dead, .dead, .dead, .dead, .dead, .dead, .dead, .lv []], 3⟩ =
    .ok .nx ⟨[some (.own 0), none, none, some (.sh (.int mx)), none, some (.own 8)], [.lv [.int l', .int q, .int k'], .dead, .dead, .dead, .dead, .dead, .dead, .dead, .lv (nums xs)], 3⟩ := by
  have hs : small62 (m : Int) := small_nat (by omega)
  obtain ⟨sf, ⟨xs, l', k', a1, a2, a3, rfl⟩, e⟩ := loop_at (g := .nm 4) (dr := [1, 2, 4]) (cs := []) (ds := rngD 0 1 m)
    (body := (exprS (methS appR (varS 5) (consA (bin2 idxR (lstS (consA (litS (.int 0)) (consA (bin2 subR (varS 3) (litS (.int 1))) (consA (callF [true, false] d_draw 2 0 [0, 1] [] (consA (varS 0) (consA (varS 3) nilA)) nilA) (consA (callF [true, false] d_draw 2 0 [0, 1] [] (consA (varS 0) (consA (varS 3) nilA)) nilA) nilA))))) (callF [true, false] d_draw 2 0 [0, 1] [] (consA (varS 0) (consA (litS (.int 4)) nilA)) nilA)) nilA))))
    (s := ⟨[some (.own 0), none, none, some (.sh (.int mx)), none, some (.own 8)], [.lv [.int l, .int q, .int k], .dead, .dead, .dead, .dead, .dead, .dead, .dead, .lv []], 3⟩)
    (fun i s => ∃ xs l' k', xs.length = i ∧ (∀ x ∈ xs, x < mx) ∧ Src (b + 3 * (i : Nat)) l' q k' ∧ s = ⟨[some (.own 0), none, none, some (.sh (.int mx)), none, some (.own 8)], [.lv [.int l', .int q, .int k'], .dead, .dead, .dead, .dead, .dead, .dead, .dead, .lv (nums xs)], 3⟩)
    (fun i d s hi ⟨xs, l0, k0, a1, a2, a3, es⟩ => by
      obtain ⟨hi, rfl⟩ := rng_at' hi
      subst es
      obtain ⟨r1, l1, k1, b1, b2, s1, e1⟩ := draw_ok (m := (mx : Int)) a3 (by omega) (by omega) (by omega)
      obtain ⟨r2, l2, k2, c1, c2, s2, e2⟩ := draw_ok (m := (mx : Int)) s1 (by omega) (by omega) (by omega)
      obtain ⟨r3, l3, k3, d1, d2, s3, e3⟩ := draw_ok (m := 4) s2 (by omega) (by decide) (by decide)
      have s4 : Src (b + 3 * ((i + 1 : Nat) : Int)) l3 q k3 := ⟨s3.l0, s3.q0, s3.q1, s3.k0, by have := s3.k1; omega⟩
      have hz : (nums xs).length < sizeLine := by
        have : (nums xs).length = i := by rw [← a1]; simp [nums]
        rw [this]
        exact Nat.lt_of_lt_of_le (show i < 100000 by omega) (by decide)
      obtain ⟨r1, rfl⟩ := Int.eq_ofNat_of_zero_le b1
      obtain ⟨r2, rfl⟩ := Int.eq_ofNat_of_zero_le c1
      obtain ⟨r3, rfl⟩ := Int.eq_ofNat_of_zero_le d1
      have hr3 : r3 = 0 ∨ r3 = 1 ∨ r3 = 2 ∨ r3 = 3 := by omega
      have go : ∀ y : Nat, y < mx → (xs ++ [y]).length = i + 1 ∧ (∀ x ∈ xs ++ [y], x < mx) := fun y hy => ⟨by simp [a1], fun x hx => by
        rcases List.mem_append.mp hx with hx | hx
        · exact a2 x hx
        · have : x = y := by simpa using hx
          omega⟩
      have em : ((mx : Int) - 1) = ((mx - 1 : Nat) : Int) := by omega
      have en : ∀ y : Nat, nums (xs ++ [y]) = nums xs ++ [.int (y : Int)] := fun y => by simp [nums]
      rcases hr3 with rfl | rfl | rfl | rfl
      · refine ⟨_, ?_, xs ++ [0], l3, k3, (go 0 hx).1, (go 0 hx).2, s4, rfl⟩
        rw [en]
        simp [runF, ent, seqS, setS, ifS, iteS, boolT, truS, notT, andT, orT, bin2, un1, varS, litS, E.callG, g1, g2, consA, nilA, idx_sh, idx_own, idxD_list, idxD_tuple, S.look, S.cellAt, asg0, doneS, S.tr, S.base, Res.bind_ok, Res.bind_bad, retS, retN, lstS, tupS, S.frz, S.frzs, intR, addR, mulR, negR, isNR, notR, isiR, isD, truD, truOk, lenD, intD, absD, max2D, min2D, exprS, skipS, subS, putIx, putAt, augS, iaddR, andV, orV, chainS, methS, appR, S.isL, S.push, S.put, S.loneC, atD, L2.atI, ixN, sz_le, sz_lt, callF, callD_eq, pick, passL, pass1, apart, psOf, ioOf, Pa.r, Pa.cell, Pa.ioc, Pa.lc, retO, fineO, wbO, norm, lentIn, atomD, atomDs, Cell.list, List.range, List.range.loop, List.filterMap_cons, List.filterMap_nil, turnS, setT, setTs, S.clean, S.forget, List.foldl_cons, List.foldl_nil, rngI_def, rngO_some, S.ints, S.int, rng1_eq, rng2_eq, forS, par2S, par3S, waits, isNone, listD, e1, e2, e3, hz]
      · refine ⟨_, ?_, xs ++ [mx - 1], l3, k3, (go (mx - 1) (by omega)).1, (go (mx - 1) (by omega)).2, s4, rfl⟩
        rw [en, ← em]
        simp [runF, ent, seqS, setS, ifS, iteS, boolT, truS, notT, andT, orT, bin2, un1, varS, litS, E.callG, g1, g2, consA, nilA, idx_sh, idx_own, idxD_list, idxD_tuple, S.look, S.cellAt, asg0, doneS, S.tr, S.base, Res.bind_ok, Res.bind_bad, retS, retN, lstS, tupS, S.frz, S.frzs, intR, addR, mulR, negR, isNR, notR, isiR, isD, truD, truOk, lenD, intD, absD, max2D, min2D, exprS, skipS, subS, putIx, putAt, augS, iaddR, andV, orV, chainS, methS, appR, S.isL, S.push, S.put, S.loneC, atD, L2.atI, ixN, sz_le, sz_lt, callF, callD_eq, pick, passL, pass1, apart, psOf, ioOf, Pa.r, Pa.cell, Pa.ioc, Pa.lc, retO, fineO, wbO, norm, lentIn, atomD, atomDs, Cell.list, List.range, List.range.loop, List.filterMap_cons, List.filterMap_nil, turnS, setT, setTs, S.clean, S.forget, List.foldl_cons, List.foldl_nil, rngI_def, rngO_some, S.ints, S.int, rng1_eq, rng2_eq, forS, par2S, par3S, waits, isNone, listD, e1, e2, e3, hz]
      · refine ⟨_, ?_, xs ++ [r1], l3, k3, (go r1 (by omega)).1, (go r1 (by omega)).2, s4, rfl⟩
        rw [en]
        simp [runF, ent, seqS, setS, ifS, iteS, boolT, truS, notT, andT, orT, bin2, un1, varS, litS, E.callG, g1, g2, consA, nilA, idx_sh, idx_own, idxD_list, idxD_tuple, S.look, S.cellAt, asg0, doneS, S.tr, S.base, Res.bind_ok, Res.bind_bad, retS, retN, lstS, tupS, S.frz, S.frzs, intR, addR, mulR, negR, isNR, notR, isiR, isD, truD, truOk, lenD, intD, absD, max2D, min2D, exprS, skipS, subS, putIx, putAt, augS, iaddR, andV, orV, chainS, methS, appR, S.isL, S.push, S.put, S.loneC, atD, L2.atI, ixN, sz_le, sz_lt, callF, callD_eq, pick, passL, pass1, apart, psOf, ioOf, Pa.r, Pa.cell, Pa.ioc, Pa.lc, retO, fineO, wbO, norm, lentIn, atomD, atomDs, Cell.list, List.range, List.range.loop, List.filterMap_cons, List.filterMap_nil, turnS, setT, setTs, S.clean, S.forget, List.foldl_cons, List.foldl_nil, rngI_def, rngO_some, S.ints, S.int, rng1_eq, rng2_eq, forS, par2S, par3S, waits, isNone, listD, e1, e2, e3, hz]
      · refine ⟨_, ?_, xs ++ [r2], l3, k3, (go r2 (by omega)).1, (go r2 (by omega)).2, s4, rfl⟩
        rw [en]
        simp [runF, ent, seqS, setS, ifS, iteS, boolT, truS, notT, andT, orT, bin2, un1, varS, litS, E.callG, g1, g2, consA, nilA, idx_sh, idx_own, idxD_list, idxD_tuple, S.look, S.cellAt, asg0, doneS, S.tr, S.base, Res.bind_ok, Res.bind_bad, retS, retN, lstS, tupS, S.frz, S.frzs, intR, addR, mulR, negR, isNR, notR, isiR, isD, truD, truOk, lenD, intD, absD, max2D, min2D, exprS, skipS, subS, putIx, putAt, augS, iaddR, andV, orV, chainS, methS, appR, S.isL, S.push, S.put, S.loneC, atD, L2.atI, ixN, sz_le, sz_lt, callF, callD_eq, pick, passL, pass1, apart, psOf, ioOf, Pa.r, Pa.cell, Pa.ioc, Pa.lc, retO, fineO, wbO, norm, lentIn, atomD, atomDs, Cell.list, List.range, List.range.loop, List.filterMap_cons, List.filterMap_nil, turnS, setT, setTs, S.clean, S.forget, List.foldl_cons, List.foldl_nil, rngI_def, rngO_some, S.ints, S.int, rng1_eq, rng2_eq, forS, par2S, par3S, waits, isNone, listD, e1, e2, e3, hz])
    ⟨[], l, k, rfl, fun x hx => by simp at hx, by simpa using h, rfl⟩
  rw [rng_len] at a1 a3
  refine ⟨xs, l', k', a1, a2, a3, Eq.trans ?_ (e.trans ?_)⟩
  · simp [runF, ent, seqS, setS, ifS, iteS, boolT, truS, notT, andT, orT, bin2, un1, varS, litS, E.callG, g1, g2, consA, nilA, idx_sh, idx_own, idxD_list, idxD_tuple, S.look, S.cellAt, asg0, doneS, S.tr, S.base, Res.bind_ok, Res.bind_bad, retS, retN, lstS, tupS, S.frz, S.frzs, intR, addR, mulR, negR, isNR, notR, isiR, isD, truD, truOk, lenD, intD, absD, max2D, min2D, exprS, skipS, subS, putIx, putAt, augS, iaddR, andV, orV, chainS, methS, appR, S.isL, S.push, S.put, S.loneC, atD, L2.atI, ixN, sz_le, sz_lt, callF, callD_eq, pick, passL, pass1, apart, psOf, ioOf, Pa.r, Pa.cell, Pa.ioc, Pa.lc, retO, fineO, wbO, norm, lentIn, atomD, atomDs, Cell.list, List.range, List.range.loop, List.filterMap_cons, List.filterMap_nil, turnS, setT, setTs, S.clean, S.forget, List.foldl_cons, List.foldl_nil, rngI_def, rngO_some, S.ints, S.int, rng1_eq, rng2_eq, forS, par2S, par3S, waits, isNone, listD, hs]
  · simp [runF, ent, seqS, setS, ifS, iteS, boolT, truS, notT, andT, orT, bin2, un1, varS, litS, E.callG, g1, g2, consA, nilA, idx_sh, idx_own, idxD_list, idxD_tuple, S.look, S.cellAt, asg0, doneS, S.tr, S.base, Res.bind_ok, Res.bind_bad, retS, retN, lstS, tupS, S.frz, S.frzs, intR, addR, mulR, negR, isNR, notR, isiR, isD, truD, truOk, lenD, intD, absD, max2D, min2D, exprS, skipS, subS, putIx, putAt, augS, iaddR, andV, orV, chainS, methS, appR, S.isL, S.push, S.put, S.loneC, atD, L2.atI, ixN, sz_le, sz_lt, callF, callD_eq, pick, passL, pass1, apart, psOf, ioOf, Pa.r, Pa.cell, Pa.ioc, Pa.lc, retO, fineO, wbO, norm, lentIn, atomD, atomDs, Cell.list, List.range, List.range.loop, List.filterMap_cons, List.filterMap_nil, turnS, setT, setTs, S.clean, S.forget, List.foldl_cons, List.foldl_nil, rngI_def, rngO_some, S.ints, S.int, rng1_eq, rng2_eq, forS, par2S, par3S, waits, isNone, listD, S.unl]
theorem text_ok (n p t : Nat) (hn : n ≤ 9) {b l q k : Int} (h : Src b l q k) (m : Nat) (hb : b + 3 * m < 2 ^ 58) (hm : m ≤ 1000) : ∃ xs l' k', xs.length = m ∧ (∀ x ∈ xs, x < 2 ^ n) ∧ Src (b + 3 * m) l' q k' ∧
    outF d_text [.own 0, .sh (shp n p t), .sh (.int m)] [.lv [.int l, .int q, .int k], .dead, .dead] = some (.new (nums xs), [.lv [.int l', .int q, .int k'], .dead, .dead]) := by
  have e1 := two_loop n p t hn [.int l, .int q, .int k] m
  have hp : 0 < 2 ^ n := Nat.two_pow_pos n
  have hp2 : 2 ^ n < 2 ^ 100 := Nat.pow_lt_pow_right (by decide) (by omega)
  generalize 2 ^ n = mx at e1 hp hp2 ⊢
  obtain ⟨xs, l', k', a1, a2, a3, e2⟩ := fill_loop mx hp hp2 h m hb hm
  refine ⟨xs, l', k', a1, a2, a3, ?_⟩
  unfold outF d_text
  simp [runF, ent, seqS, setS, ifS, iteS, boolT, truS, notT, andT, orT, bin2, un1, varS, litS, E.callG, g1, g2, consA, nilA, idx_sh, idx_own, idxD_list, idxD_tuple, S.look, S.cellAt, asg0, doneS, S.tr, S.base, Res.bind_ok, Res.bind_bad, retS, retN, lstS, tupS, S.frz, S.frzs, intR, addR, mulR, negR, isNR, notR, isiR, isD, truD, truOk, lenD, intD, absD, max2D, min2D, exprS, skipS, subS, putIx, putAt, augS, iaddR, andV, orV, chainS, methS, appR, S.isL, S.push, S.put, S.loneC, atD, L2.atI, ixN, sz_le, sz_lt, callF, callD_eq, pick, passL, pass1, apart, psOf, ioOf, Pa.r, Pa.cell, Pa.ioc, Pa.lc, retO, fineO, wbO, norm, lentIn, atomD, atomDs, Cell.list, List.range, List.range.loop, List.filterMap_cons, List.filterMap_nil, turnS, setT, setTs, S.clean, S.forget, List.foldl_cons, List.foldl_nil, rngI_def, rngO_some, S.ints, S.int, rng1_eq, rng2_eq, par2S, par3S, waits, isNone, listD, e1, e2]
/-! ### frames -/
def bits (n : Nat) (x : Nat) : List Nat := (List.range n).map fun i => x / 2 ^ i % 2
def pbit (n p x : Nat) : List Nat := if p = 0 then [] else if p = 1 then [(bits n x).sum % 2] else [1 - (bits n x).sum % 2]
def frame (n p t x : Nat) : List Nat := [0] ++ bits n x ++ pbit n p x ++ List.replicate t 1
end E
/-! V3: frames. -/
namespace E
open PySem PySem.Spec PyProof.Rows L2
theorem eq_none {p : Nat} (h : p < 3) : PyData.eqv (.str (par p)) (.str "none") = decide (p = 0) := by
  have : p = 0 ∨ p = 1 ∨ p = 2 := by omega
  rcases this with rfl | rfl | rfl <;> decide +kernel
theorem eq_even {p : Nat} (h : p < 3) : PyData.eqv (.str (par p)) (.str "even") = decide (p = 1) := by
  have : p = 0 ∨ p = 1 ∨ p = 2 := by omega
  rcases this with rfl | rfl | rfl <;> decide +kernel
theorem eq_odd {p : Nat} (h : p < 3) : PyData.eqv (.str (par p)) (.str "odd") = decide (p = 2) := by
  have : p = 0 ∨ p = 1 ∨ p = 2 := by omega
  rcases this with rfl | rfl | rfl <;> decide +kernel
theorem n_n : PyData.eqv (.str "none") (.str "none") = true := by decide +kernel
theorem n_e : PyData.eqv (.str "none") (.str "even") = false := by decide +kernel
theorem n_o : PyData.eqv (.str "none") (.str "odd") = false := by decide +kernel
theorem e_n : PyData.eqv (.str "even") (.str "none") = false := by decide +kernel
theorem e_e : PyData.eqv (.str "even") (.str "even") = true := by decide +kernel
theorem e_o : PyData.eqv (.str "even") (.str "odd") = false := by decide +kernel
theorem o_n : PyData.eqv (.str "odd") (.str "none") = false := by decide +kernel
theorem o_e : PyData.eqv (.str "odd") (.str "even") = false := by decide +kernel
theorem o_o : PyData.eqv (.str "odd") (.str "odd") = true := by decide +kernel
theorem eqOk_str {a b : Str} : eqOk (.str a) (.str b) = true := rfl
theorem shp_0 (n p t : Nat) (s : S) : idxD (shp n p t) 0 s = .ok (.sh (.int n)) s := rfl
theorem shp_1 (n p t : Nat) (s : S) : idxD (shp n p t) 1 s = .ok (.sh (.str (par p))) s := rfl
theorem shp_2 (n p t : Nat) (s : S) : idxD (shp n p t) 2 s = .ok (.sh (.int t)) s := rfl
theorem par_n {p : Nat} (h : p < 3) (b : Bool) (s : S) : eqR b (.sh (.str (par p))) (.sh (.str "none")) s = .ok (.sh (.bool (if b then !decide (p = 0) else decide (p = 0)))) s := by
  unfold eqR
  simp only [S.look, eqOk_str, eq_none h, if_true]
theorem par_e {p : Nat} (h : p < 3) (b : Bool) (s : S) : eqR b (.sh (.str (par p))) (.sh (.str "even")) s = .ok (.sh (.bool (if b then !decide (p = 1) else decide (p = 1)))) s := by
  unfold eqR
  simp only [S.look, eqOk_str, eq_even h, if_true]
theorem par_o {p : Nat} (h : p < 3) (b : Bool) (s : S) : eqR b (.sh (.str (par p))) (.sh (.str "odd")) s = .ok (.sh (.bool (if b then !decide (p = 2) else decide (p = 2)))) s := by
  unfold eqR
  simp only [S.look, eqOk_str, eq_odd h, if_true]
theorem nums_rep (t x : Nat) : nums (List.replicate t x) = List.replicate t (PyData.int (x : Int)) := by simp [nums]
theorem ints_nums : ∀ xs : List Nat, intsOf (nums xs) = some (xs.map fun (x : Nat) => (x : Int))
  | [] => rfl
  | x :: xs => by
    show (intsOf (nums xs)).map _ = _
    rw [ints_nums xs]
    rfl
theorem sum_nums : ∀ xs : List Nat, (xs.map fun (x : Nat) => (x : Int)).sum = ((xs.sum : Nat) : Int)
  | [] => rfl
  | x :: xs => by
    rw [List.map_cons, List.sum_cons, List.sum_cons, sum_nums xs]
    push_cast
    rfl
theorem nums_len (xs : List Nat) : (nums xs).length = xs.length := by simp [nums]
theorem nums_app (xs ys : List Nat) : nums (xs ++ ys) = nums xs ++ nums ys := by simp [nums]
theorem bits_len (n x : Nat) : (bits n x).length = n := by simp [bits]
theorem bits_succ (n x : Nat) : bits (n + 1) x = bits n x ++ [x / 2 ^ n % 2] := by simp [bits, List.range_succ]
noncomputable def d_lframe : FT := runF 5 (seqS (par2S 2 3 (consA (lstS nilA) (consA (varS 1) nilA)))
 (seqS (forS (rngI rng1 (consA (bin2 idxR (varS 0) (litS (.int 0))) nilA)) (.nm 4) [1, 4]
 (seqS (exprS (methS appR (varS 2) (consA (bin2 modR (E.callG (g1 intD) (consA (varS 3) nilA)) (litS (.int 2))) nilA)))
 (setS 3 (bin2 fdivR (varS 3) (litS (.int 2))))))
 (seqS (ifS (boolT (bin2 (eqR false) (bin2 idxR (varS 0) (litS (.int 1))) (litS (.str "even"))))
 (exprS (methS appR (varS 2) (consA (bin2 modR (E.callG (g1 intD) (consA (E.callG (g1 sumD) (consA (varS 2) nilA)) nilA)) (litS (.int 2))) nilA)))
 (ifS (boolT (bin2 (eqR false) (bin2 idxR (varS 0) (litS (.int 1))) (litS (.str "odd"))))
 (exprS (methS appR (varS 2) (consA (bin2 subR (litS (.int 1)) (bin2 modR (E.callG (g1 intD) (consA (E.callG (g1 sumD) (consA (varS 2) nilA)) nilA)) (litS (.int 2)))) nilA)))
 skipS))
 (retS (bin2 addR (bin2 addR (lstS (consA (litS (.int 0)) nilA)) (varS 2)) (bin2 mulR (lstS (consA (litS (.int 1)) nilA)) (bin2 idxR (varS 0) (litS (.int 2)))))))))
theorem frame_loop (n p t x : Nat) (hn : n ≤ 9) : forS (rngI rng1 (consA (bin2 idxR (varS 0) (litS (.int 0))) nilA)) (.nm 4) [1, 4]
 (seqS (exprS (methS appR (varS 2) (consA (bin2 modR (E.callG (g1 intD) (consA (varS 3) nilA)) (litS (.int 2))) nilA)))
 (setS 3 (bin2 fdivR (varS 3) (litS (.int 2)))))
    ⟨[some (.sh (shp n p t)), some (.sh (.int x)), some (.own 4), some (.sh (.int x)), none], [.dead, .dead, .dead, .dead, .lv [], .dead, .dead], 2⟩ =
    .ok .nx ⟨[some (.sh (shp n p t)), none, some (.own 4), some (.sh (.int ((x / 2 ^ n : Nat) : Int))), none], [.dead, .dead, .dead, .dead, .lv (nums (bits n x)), .dead, .dead], 2⟩ := by
  have hs : small62 (n : Int) := small_nat (by omega)
  have e := loop_eq (g := .nm 4) (dr := [1, 4]) (cs := []) (ds := rngD 0 1 n) (body := seqS (exprS (methS appR (varS 2) (consA (bin2 modR (E.callG (g1 intD) (consA (varS 3) nilA)) (litS (.int 2))) nilA)))
 (setS 3 (bin2 fdivR (varS 3) (litS (.int 2)))))
    (fun i => ⟨[some (.sh (shp n p t)), none, some (.own 4), some (.sh (.int ((x / 2 ^ i : Nat) : Int))), none], [.dead, .dead, .dead, .dead, .lv (nums (bits i x)), .dead, .dead], 2⟩) (fun i d hi => by
      obtain ⟨hi, rfl⟩ := rng_at' hi
      have hz : (nums (bits i x)).length < sizeLine := by
        rw [nums_len, bits_len]
        exact Nat.lt_of_lt_of_le (show i < 100000 by omega) (by decide)
      have hd : ∀ y, cDiv y 2 := fun y => ⟨by decide, by show Nat.log2 2 < 9000; decide +kernel⟩
      have e1 : nums (bits (i + 1) x) = nums (bits i x) ++ [.int (((x / 2 ^ i : Nat) : Int) % 2)] := by rw [bits_succ, nums_app]; simp [nums]
      have e2 : ((x / 2 ^ (i + 1) : Nat) : Int) = ((x / 2 ^ i : Nat) : Int) / 2 := by rw [Nat.pow_succ, ← Nat.div_div_eq_div_mul]; rfl
      rw [e1, e2]
      generalize ((x / 2 ^ i : Nat) : Int) = z
      generalize nums (bits i x) = ys at hz ⊢
      simp [runF, ent, seqS, setS, ifS, iteS, boolT, truS, notT, andT, orT, bin2, un1, varS, litS, E.callG, g1, g2, consA, nilA, idx_sh, idx_own, idxD_list, idxD_tuple, S.look, S.cellAt, asg0, doneS, S.tr, S.base, Res.bind_ok, Res.bind_bad, retS, retN, lstS, tupS, S.frz, S.frzs, intR, addR, mulR, negR, isNR, notR, isiR, isD, truD, truOk, lenD, intD, absD, max2D, min2D, exprS, skipS, subS, putIx, putAt, augS, iaddR, andV, orV, chainS, methS, appR, S.isL, S.push, S.put, S.loneC, atD, L2.atI, ixN, sz_le, sz_lt, callF, callD_eq, pick, passL, pass1, apart, psOf, ioOf, Pa.r, Pa.cell, Pa.ioc, Pa.lc, retO, fineO, wbO, norm, lentIn, atomD, atomDs, Cell.list, List.range, List.range.loop, List.filterMap_cons, List.filterMap_nil, turnS, setT, setTs, S.clean, S.forget, List.foldl_cons, List.foldl_nil, rngI_def, rngO_some, S.ints, S.int, rng1_eq, rng2_eq, forS, par2S, par3S, waits, isNone, listD, hz, hd])
  rw [rng_len] at e
  refine Eq.trans ?_ (e.trans ?_)
  · simp [runF, ent, seqS, setS, ifS, iteS, boolT, truS, notT, andT, orT, bin2, un1, varS, litS, E.callG, g1, g2, consA, nilA, idx_sh, idx_own, idxD_list, idxD_tuple, S.look, S.cellAt, asg0, doneS, S.tr, S.base, Res.bind_ok, Res.bind_bad, retS, retN, lstS, tupS, S.frz, S.frzs, intR, addR, mulR, negR, isNR, notR, isiR, isD, truD, truOk, lenD, intD, absD, max2D, min2D, exprS, skipS, subS, putIx, putAt, augS, iaddR, andV, orV, chainS, methS, appR, S.isL, S.push, S.put, S.loneC, atD, L2.atI, ixN, sz_le, sz_lt, callF, callD_eq, pick, passL, pass1, apart, psOf, ioOf, Pa.r, Pa.cell, Pa.ioc, Pa.lc, retO, fineO, wbO, norm, lentIn, atomD, atomDs, Cell.list, List.range, List.range.loop, List.filterMap_cons, List.filterMap_nil, turnS, setT, setTs, S.clean, S.forget, List.foldl_cons, List.foldl_nil, rngI_def, rngO_some, S.ints, S.int, rng1_eq, rng2_eq, forS, par2S, par3S, waits, isNone, listD, hs, shp, bits, nums]
  · simp [runF, ent, seqS, setS, ifS, iteS, boolT, truS, notT, andT, orT, bin2, un1, varS, litS, E.callG, g1, g2, consA, nilA, idx_sh, idx_own, idxD_list, idxD_tuple, S.look, S.cellAt, asg0, doneS, S.tr, S.base, Res.bind_ok, Res.bind_bad, retS, retN, lstS, tupS, S.frz, S.frzs, intR, addR, mulR, negR, isNR, notR, isiR, isD, truD, truOk, lenD, intD, absD, max2D, min2D, exprS, skipS, subS, putIx, putAt, augS, iaddR, andV, orV, chainS, methS, appR, S.isL, S.push, S.put, S.loneC, atD, L2.atI, ixN, sz_le, sz_lt, callF, callD_eq, pick, passL, pass1, apart, psOf, ioOf, Pa.r, Pa.cell, Pa.ioc, Pa.lc, retO, fineO, wbO, norm, lentIn, atomD, atomDs, Cell.list, List.range, List.range.loop, List.filterMap_cons, List.filterMap_nil, turnS, setT, setTs, S.clean, S.forget, List.foldl_cons, List.foldl_nil, rngI_def, rngO_some, S.ints, S.int, rng1_eq, rng2_eq, forS, par2S, par3S, waits, isNone, listD, S.unl]
theorem lframe_ok (n p t x : Nat) (hn : n ≤ 9) (hp : p < 3) (ht : t = 1 ∨ t = 2) : outF d_lframe [.sh (shp n p t), .sh (.int x)] [.dead, .dead] = some (.new (nums (frame n p t x)), [.dead, .dead]) := by
  have e1 := frame_loop n p t x hn
  have hz : (nums (bits n x)).length < sizeLine := by
    rw [nums_len, bits_len]
    exact Nat.lt_of_lt_of_le (show n < 100000 by omega) (by decide)
  have hl : (nums (bits n x)).length ≤ 100 := by rw [nums_len, bits_len]; omega
  have e2 : intsOf (nums (bits n x)) = some ((bits n x).map fun (x : Nat) => (x : Int)) := ints_nums _
  have e3 := sum_nums (bits n x)
  have hm : (bits n x).sum % 2 ≤ 1 := by omega
  have f : nums (frame n p t x) = ([PyData.int 0] : List D) ++ nums (bits n x) ++ nums (pbit n p x) ++ nums (List.replicate t 1) := by simp [frame, nums_app, nums]
  have f0 : nums (pbit n 0 x) = [] := rfl
  have f1 : nums (pbit n 1 x) = [PyData.int ((((bits n x).sum : Nat) : Int) % 2)] := rfl
  have f2 : nums (pbit n 2 x) = [PyData.int (1 - (((bits n x).sum : Nat) : Int) % 2)] := by
    show [PyData.int ((1 - (bits n x).sum % 2 : Nat) : Int)] = _
    congr 2
    omega
  rw [f]
  unfold outF d_lframe
  rw [nums_rep]
  have h62 : in62 (t : Int) := in62_nat (by omega)
  generalize nums (bits n x) = ys at *
  generalize ((bits n x).map fun (x : Nat) => (x : Int)) = zs at *
  generalize (((bits n x).sum : Nat) : Int) = q at *
  have hpp : p = 0 ∨ p = 1 ∨ p = 2 := by omega
  have ht2 : t ≤ 2 := by omega
  have l1 : 1 + ys.length ≤ sizeLine := Nat.le_trans (show _ ≤ 101 by omega) (by decide)
  have l2 : ys.length + 1 ≤ sizeLine := Nat.le_trans (show _ ≤ 101 by omega) (by decide)
  have l3 : ys.length + 1 + t ≤ sizeLine := Nat.le_trans (show _ ≤ 103 by omega) (by decide)
  have l4 : ys.length + 1 + 1 + t ≤ sizeLine := Nat.le_trans (show _ ≤ 104 by omega) (by decide)
  have l5 : 1 + (ys.length + 1) ≤ sizeLine := Nat.le_trans (show _ ≤ 104 by omega) (by decide)
  have l6 : t ≤ sizeLine := Nat.le_trans ht2 (by decide)
  rcases hpp with hp0 | hp0 | hp0
  · have b1 : p ≠ 1 := by omega
    have b2 : p ≠ 2 := by omega
    have fp : nums (pbit n p x) = [] := by rw [hp0]; exact f0
    simp [runF, ent, seqS, setS, ifS, iteS, boolT, truS, notT, andT, orT, bin2, un1, varS, litS, E.callG, g1, g2, consA, nilA, idx_sh, idx_own, idxD_list, idxD_tuple, S.look, S.cellAt, asg0, doneS, S.tr, S.base, Res.bind_ok, Res.bind_bad, retS, retN, lstS, tupS, S.frz, S.frzs, intR, addR, mulR, negR, isNR, notR, isiR, isD, truD, truOk, lenD, intD, absD, max2D, min2D, exprS, skipS, subS, putIx, putAt, augS, iaddR, andV, orV, chainS, methS, appR, S.isL, S.push, S.put, S.loneC, atD, L2.atI, ixN, sz_le, sz_lt, callF, callD_eq, pick, passL, pass1, apart, psOf, ioOf, Pa.r, Pa.cell, Pa.ioc, Pa.lc, retO, fineO, wbO, norm, lentIn, atomD, atomDs, Cell.list, List.range, List.range.loop, List.filterMap_cons, List.filterMap_nil, turnS, setT, setTs, S.clean, S.forget, List.foldl_cons, List.foldl_nil, rngI_def, rngO_some, S.ints, S.int, rng1_eq, rng2_eq, par2S, par3S, waits, isNone, listD, ↓shp_0, ↓shp_1, ↓shp_2, ↓par_n, ↓par_e, ↓par_o, hp, e1, e2, e3, sumD, h62, b1, b2, fp, hz, l1, l2, l3, l4, l5, l6]
  · have b1 : (p = 1) = True := eq_true hp0
    have fp : nums (pbit n p x) = [PyData.int (q % 2)] := by rw [hp0]; exact f1
    simp [runF, ent, seqS, setS, ifS, iteS, boolT, truS, notT, andT, orT, bin2, un1, varS, litS, E.callG, g1, g2, consA, nilA, idx_sh, idx_own, idxD_list, idxD_tuple, S.look, S.cellAt, asg0, doneS, S.tr, S.base, Res.bind_ok, Res.bind_bad, retS, retN, lstS, tupS, S.frz, S.frzs, intR, addR, mulR, negR, isNR, notR, isiR, isD, truD, truOk, lenD, intD, absD, max2D, min2D, exprS, skipS, subS, putIx, putAt, augS, iaddR, andV, orV, chainS, methS, appR, S.isL, S.push, S.put, S.loneC, atD, L2.atI, ixN, sz_le, sz_lt, callF, callD_eq, pick, passL, pass1, apart, psOf, ioOf, Pa.r, Pa.cell, Pa.ioc, Pa.lc, retO, fineO, wbO, norm, lentIn, atomD, atomDs, Cell.list, List.range, List.range.loop, List.filterMap_cons, List.filterMap_nil, turnS, setT, setTs, S.clean, S.forget, List.foldl_cons, List.foldl_nil, rngI_def, rngO_some, S.ints, S.int, rng1_eq, rng2_eq, par2S, par3S, waits, isNone, listD, ↓shp_0, ↓shp_1, ↓shp_2, ↓par_n, ↓par_e, ↓par_o, hp, e1, e2, e3, sumD, h62, b1, fp, hz, l1, l2, l3, l4, l5, l6]
  · have b1 : p ≠ 1 := by omega
    have b2 : (p = 2) = True := eq_true hp0
    have fp : nums (pbit n p x) = [PyData.int (1 - q % 2)] := by rw [hp0]; exact f2
    simp [runF, ent, seqS, setS, ifS, iteS, boolT, truS, notT, andT, orT, bin2, un1, varS, litS, E.callG, g1, g2, consA, nilA, idx_sh, idx_own, idxD_list, idxD_tuple, S.look, S.cellAt, asg0, doneS, S.tr, S.base, Res.bind_ok, Res.bind_bad, retS, retN, lstS, tupS, S.frz, S.frzs, intR, addR, mulR, negR, isNR, notR, isiR, isD, truD, truOk, lenD, intD, absD, max2D, min2D, exprS, skipS, subS, putIx, putAt, augS, iaddR, andV, orV, chainS, methS, appR, S.isL, S.push, S.put, S.loneC, atD, L2.atI, ixN, sz_le, sz_lt, callF, callD_eq, pick, passL, pass1, apart, psOf, ioOf, Pa.r, Pa.cell, Pa.ioc, Pa.lc, retO, fineO, wbO, norm, lentIn, atomD, atomDs, Cell.list, List.range, List.range.loop, List.filterMap_cons, List.filterMap_nil, turnS, setT, setTs, S.clean, S.forget, List.foldl_cons, List.foldl_nil, rngI_def, rngO_some, S.ints, S.int, rng1_eq, rng2_eq, par2S, par3S, waits, isNone, listD, ↓shp_0, ↓shp_1, ↓shp_2, ↓par_n, ↓par_e, ↓par_o, hp, e1, e2, e3, sumD, h62, b1, b2, fp, hz, l1, l2, l3, l4, l5, l6]
end E
/-! V4: comprehensions by their items; the program's frames. -/
namespace E
open PySem PySem.Spec PyProof.Rows L2
def cturn (g : Tg) (ft : TS') (bd : S → Option S) (sl : List (Option R)) (m : Nat) (d : D) (s : S) : Option S := match setT g d s with
  | none => none
  | some s1 => match ft s1 with
    | .ok b s2 => if b = true then (match bd s2 with
      | some s3 => some (s3.back sl m)
      | none => none) else some (s2.back sl m)
    | _ => none
theorem compL_ind {g : Tg} {ft : TS'} {bd : S → Option S} {sl : List (Option R)} {m : Nat} : ∀ {ds : List D} (st : Nat → S) (j : Nat), (∀ i d, ds[i]? = some d → cturn g ft bd sl m d (st (j + i)) = some (st (j + i + 1))) → compL g ft bd sl m ds (st j) = some (st (j + ds.length))
  | [], st, j, _ => rfl
  | d :: ds, st, j, h => by
    have h0 := h 0 d rfl
    have ih := compL_ind (g := g) (ft := ft) (bd := bd) (sl := sl) (m := m) (ds := ds) st (j + 1) fun i d' hi => by
      have := h (i + 1) d' (by simpa using hi)
      rwa [show j + (i + 1) = j + 1 + i by omega] at this
    rw [List.length_cons, show j + (ds.length + 1) = j + 1 + ds.length by omega, ← ih]
    unfold cturn at h0
    rw [Nat.add_zero] at h0
    rw [compL]
    cases es : setT g d (st j) with
    | none => rw [es] at h0; cases h0
    | some s1 =>
      rw [es] at h0
      dsimp only at h0 ⊢
      cases et : ft s1 with
      | bad => rw [et] at h0; cases h0
      | exc x s2 => rw [et] at h0; cases h0
      | ok b s2 =>
        rw [et] at h0
        dsimp only at h0 ⊢
        cases b with
        | true =>
          rw [if_pos rfl] at h0 ⊢
          cases eb : bd s2 with
          | none => rw [eb] at h0; cases h0
          | some s3 =>
            rw [eb] at h0
            dsimp only at h0 ⊢
            rw [Option.some.inj h0]
        | false =>
          rw [if_neg Bool.false_ne_true] at h0 ⊢
          rw [Option.some.inj h0]
theorem comp_eq {it : IS} {g : Tg} {vs : List Nat} {ft : TS'} {fe : ES} {s s1 : S} {ds : List D} {cs : List Nat} (e : it s = .ok (ds, cs) s1) (out : Nat → List D) (h0 : out 0 = [])
    (hs : ∀ i d, ds[i]? = some d → cturn g ft (addE fe s1.ce.length) (wipeS vs s1.sl) (s1.ce.length + 1) d ⟨wipeS vs s1.sl, s1.ce ++ [.lv (out i)], s1.np⟩ = some ⟨wipeS vs s1.sl, s1.ce ++ [.lv (out (i + 1))], s1.np⟩) :
    compS it g vs ft fe s = .ok (.own s1.ce.length) ((⟨s1.sl, s1.ce ++ [.lv (out ds.length)], s1.np⟩ : S).unl cs) := by
  unfold compS compG
  rw [e]
  have c := compL_ind (g := g) (ft := ft) (bd := addE fe s1.ce.length) (sl := wipeS vs s1.sl) (m := s1.ce.length + 1) (ds := ds) (fun i => ⟨wipeS vs s1.sl, s1.ce ++ [.lv (out i)], s1.np⟩) 0 (fun i d h => by rw [Nat.zero_add]; exact hs i d h)
  rw [Nat.zero_add, h0] at c
  show (match compL g ft (addE fe s1.ce.length) (wipeS vs s1.sl) (s1.ce.length + 1) ds ⟨wipeS vs s1.sl, s1.ce ++ [.lv []], s1.np⟩ with
    | some s2 => _
    | none => _) = _
  rw [c]
  show Res.ok (R.own s1.ce.length) (S.unl cs ⟨s1.sl, (s1.ce ++ [Cell.lv (out ds.length)]).take (s1.ce.length + 1), s1.np⟩) = _
  rw [List.take_of_length_le (by simp)]
noncomputable abbrev bitE : ES := bin2 andR (bin2 shrR (varS 1) (varS 3)) (litS (.int 1))
/-- the bits of x, the slots being shape, x, anything, the place -/
theorem bits_comp (n p t x : Nat) (hn : n ≤ 9) (r : Option R) (ce : List Cell) (np : Nat) : compS (rngI rng1 (consA (bin2 idxR (varS 0) (litS (.int 0))) nilA)) (.nm 3) [3] yesT bitE ⟨[some (.sh (shp n p t)), some (.sh (.int x)), r, none], ce, np⟩ =
    .ok (.own ce.length) ⟨[some (.sh (shp n p t)), some (.sh (.int x)), r, none], ce ++ [.lv (nums (bits n x))], np⟩ := by
  have hs : small62 (n : Int) := small_nat (by omega)
  have e : rngI rng1 (consA (bin2 idxR (varS 0) (litS (.int 0))) nilA) ⟨[some (.sh (shp n p t)), some (.sh (.int x)), r, none], ce, np⟩ = .ok (rngD 0 1 n, []) ⟨[some (.sh (shp n p t)), some (.sh (.int x)), r, none], ce, np⟩ := by
    simp [runF, ent, seqS, setS, ifS, iteS, boolT, truS, notT, andT, orT, bin2, un1, varS, litS, E.callG, g1, g2, consA, nilA, idx_sh, idx_own, idxD_list, idxD_tuple, S.look, S.cellAt, asg0, doneS, S.tr, S.base, Res.bind_ok, Res.bind_bad, retS, retN, lstS, tupS, S.frz, S.frzs, intR, addR, mulR, negR, isNR, notR, isiR, isD, truD, truOk, lenD, intD, absD, max2D, min2D, exprS, skipS, subS, putIx, putAt, augS, iaddR, andV, orV, chainS, methS, appR, S.isL, S.push, S.put, S.loneC, atD, L2.atI, ixN, sz_le, sz_lt, callF, callD_eq, pick, passL, pass1, apart, psOf, ioOf, Pa.r, Pa.cell, Pa.ioc, Pa.lc, retO, fineO, wbO, norm, lentIn, atomD, atomDs, Cell.list, List.range, List.range.loop, List.filterMap_cons, List.filterMap_nil, turnS, setT, setTs, S.clean, S.forget, List.foldl_cons, List.foldl_nil, rngI_def, rngO_some, S.ints, S.int, rng1_eq, rng2_eq, forS, par2S, par3S, waits, isNone, listD, ↓shp_0, hs]
  rw [comp_eq e (fun i => nums (bits i x)) rfl]
  · rw [rng_len]
    rfl
  · intro i d hi
    obtain ⟨hi, rfl⟩ := rng_at' hi
    have hz : (nums (bits i x)).length < sizeLine := by
      rw [nums_len, bits_len]
      exact Nat.lt_of_lt_of_le (show i < 100000 by omega) (by decide)
    have e1 : nums (bits (i + 1) x) = nums (bits i x) ++ [.int ((x : Int) / 2 ^ i % 2)] := by rw [bits_succ, nums_app]; simp [nums]
    dsimp only
    rw [e1]
    generalize nums (bits i x) = ys at hz ⊢
    simp [runF, ent, seqS, setS, ifS, iteS, boolT, truS, notT, andT, orT, bin2, un1, varS, litS, E.callG, g1, g2, consA, nilA, idx_sh, idx_own, idxD_list, idxD_tuple, S.look, S.cellAt, asg0, doneS, S.tr, S.base, Res.bind_ok, Res.bind_bad, retS, retN, lstS, tupS, S.frz, S.frzs, intR, addR, mulR, negR, isNR, notR, isiR, isD, truD, truOk, lenD, intD, absD, max2D, min2D, exprS, skipS, subS, putIx, putAt, augS, iaddR, andV, orV, chainS, methS, appR, S.isL, S.push, S.put, S.loneC, atD, L2.atI, ixN, sz_le, sz_lt, callF, callD_eq, pick, passL, pass1, apart, psOf, ioOf, Pa.r, Pa.cell, Pa.ioc, Pa.lc, retO, fineO, wbO, norm, lentIn, atomD, atomDs, Cell.list, List.range, List.range.loop, List.filterMap_cons, List.filterMap_nil, turnS, setT, setTs, S.clean, S.forget, List.foldl_cons, List.foldl_nil, rngI_def, rngO_some, S.ints, S.int, rng1_eq, rng2_eq, forS, par2S, par3S, waits, isNone, listD, cturn, addE, addC, wipeS, S.back, yesT, hz, bitAnd_m1]
    rw [List.take_of_length_le (by simp)]
noncomputable def d_parity : FT := runF 4 (seqS (ifS (boolT (bin2 (eqR false) (bin2 idxR (varS 0) (litS (.int 1))) (litS (.str "none"))))
 (retS (litS .none))
 skipS)
 (seqS (setS 2 (E.callG (g1 sumD) (consA (compS (rngI rng1 (consA (bin2 idxR (varS 0) (litS (.int 0))) nilA)) (.nm 3) [3] yesT (bin2 andR (bin2 shrR (varS 1) (varS 3)) (litS (.int 1)))) nilA)))
 (retS (bin2 modR (bin2 addR (varS 2) (E.callG (g1 intD) (consA (bin2 (eqR false) (bin2 idxR (varS 0) (litS (.int 1))) (litS (.str "odd"))) nilA))) (litS (.int 2))))))
theorem parity_ok (n p t x : Nat) (hn : n ≤ 9) (hp : p < 3) (h0 : p ≠ 0) : outF d_parity [.sh (shp n p t), .sh (.int x)] [.dead, .dead] = some (.sh (.int (((((bits n x).sum : Nat) : Int) + (if p = 2 then 1 else 0)) % 2)), [.dead, .dead]) := by
  have e1 := bits_comp n p t x hn
  have e2 : intsOf (nums (bits n x)) = some ((bits n x).map fun (x : Nat) => (x : Int)) := ints_nums _
  have e3 := sum_nums (bits n x)
  unfold outF d_parity
  generalize nums (bits n x) = ys at *
  generalize ((bits n x).map fun (x : Nat) => (x : Int)) = zs at *
  generalize (((bits n x).sum : Nat) : Int) = q at *
  by_cases h2 : p = 2
  · have c2 : (p = 2) = True := eq_true h2
    simp [runF, ent, seqS, setS, ifS, iteS, boolT, truS, notT, andT, orT, bin2, un1, varS, litS, E.callG, g1, g2, consA, nilA, idx_sh, idx_own, idxD_list, idxD_tuple, S.look, S.cellAt, asg0, doneS, S.tr, S.base, Res.bind_ok, Res.bind_bad, retS, retN, lstS, tupS, S.frz, S.frzs, intR, addR, mulR, negR, isNR, notR, isiR, isD, truD, truOk, lenD, intD, absD, max2D, min2D, exprS, skipS, subS, putIx, putAt, augS, iaddR, andV, orV, chainS, methS, appR, S.isL, S.push, S.put, S.loneC, atD, L2.atI, ixN, sz_le, sz_lt, callF, callD_eq, pick, passL, pass1, apart, psOf, ioOf, Pa.r, Pa.cell, Pa.ioc, Pa.lc, retO, fineO, wbO, norm, lentIn, atomD, atomDs, Cell.list, List.range, List.range.loop, List.filterMap_cons, List.filterMap_nil, turnS, setT, setTs, S.clean, S.forget, List.foldl_cons, List.foldl_nil, rngI_def, rngO_some, S.ints, S.int, rng1_eq, rng2_eq, forS, par2S, par3S, waits, isNone, listD, ↓shp_1, ↓par_n, ↓par_o, hp, h0, c2, e1, e2, e3, sumD]
  · simp [runF, ent, seqS, setS, ifS, iteS, boolT, truS, notT, andT, orT, bin2, un1, varS, litS, E.callG, g1, g2, consA, nilA, idx_sh, idx_own, idxD_list, idxD_tuple, S.look, S.cellAt, asg0, doneS, S.tr, S.base, Res.bind_ok, Res.bind_bad, retS, retN, lstS, tupS, S.frz, S.frzs, intR, addR, mulR, negR, isNR, notR, isiR, isD, truD, truOk, lenD, intD, absD, max2D, min2D, exprS, skipS, subS, putIx, putAt, augS, iaddR, andV, orV, chainS, methS, appR, S.isL, S.push, S.put, S.loneC, atD, L2.atI, ixN, sz_le, sz_lt, callF, callD_eq, pick, passL, pass1, apart, psOf, ioOf, Pa.r, Pa.cell, Pa.ioc, Pa.lc, retO, fineO, wbO, norm, lentIn, atomD, atomDs, Cell.list, List.range, List.range.loop, List.filterMap_cons, List.filterMap_nil, turnS, setT, setTs, S.clean, S.forget, List.foldl_cons, List.foldl_nil, rngI_def, rngO_some, S.ints, S.int, rng1_eq, rng2_eq, forS, par2S, par3S, waits, isNone, listD, ↓shp_1, ↓par_n, ↓par_o, hp, h0, h2, e1, e2, e3, sumD]
noncomputable def d_flevels : FT := runF 4 (seqS (setS 2 (bin2 addR (lstS (consA (litS (.int 0)) nilA)) (compS (rngI rng1 (consA (bin2 idxR (varS 0) (litS (.int 0))) nilA)) (.nm 3) [3] yesT (bin2 andR (bin2 shrR (varS 1) (varS 3)) (litS (.int 1))))))
 (seqS (ifS (boolT (bin2 (eqR true) (bin2 idxR (varS 0) (litS (.int 1))) (litS (.str "none"))))
 (exprS (methS appR (varS 2) (consA (callF [false, false] d_parity 2 0 [0, 1] [] (consA (varS 0) (consA (varS 1) nilA)) nilA) nilA)))
 skipS)
 (retS (bin2 addR (varS 2) (bin2 mulR (lstS (consA (litS (.int 1)) nilA)) (bin2 idxR (varS 0) (litS (.int 2))))))))
theorem flevels_ok (n p t x : Nat) (hn : n ≤ 9) (hp : p < 3) (ht : t = 1 ∨ t = 2) : outF d_flevels [.sh (shp n p t), .sh (.int x)] [.dead, .dead] = some (.new (nums (frame n p t x)), [.dead, .dead]) := by
  have e1 := bits_comp n p t x hn
  have hl : (nums (bits n x)).length ≤ 100 := by rw [nums_len, bits_len]; omega
  have ep := parity_ok n p t x hn hp
  have f : nums (frame n p t x) = ([PyData.int 0] : List D) ++ nums (bits n x) ++ nums (pbit n p x) ++ nums (List.replicate t 1) := by simp [frame, nums_app, nums]
  have f0 : nums (pbit n 0 x) = [] := rfl
  have f1 : nums (pbit n 1 x) = [PyData.int ((((bits n x).sum : Nat) : Int) % 2)] := rfl
  have f2 : nums (pbit n 2 x) = [PyData.int (((((bits n x).sum : Nat) : Int) + 1) % 2)] := by
    show [PyData.int ((1 - (bits n x).sum % 2 : Nat) : Int)] = _
    congr 2
    omega
  rw [f, nums_rep]
  have h62 : in62 (t : Int) := in62_nat (by omega)
  unfold outF d_flevels
  generalize nums (bits n x) = ys at *
  generalize (((bits n x).sum : Nat) : Int) = q at *
  have hpp : p = 0 ∨ p = 1 ∨ p = 2 := by omega
  have ht2 : t ≤ 2 := by omega
  have l0 : ys.length + 1 < sizeLine := Nat.lt_of_le_of_lt (show _ ≤ 101 by omega) (by decide)
  have l1 : 1 + ys.length ≤ sizeLine := Nat.le_trans (show _ ≤ 101 by omega) (by decide)
  have l2 : ys.length + 1 ≤ sizeLine := Nat.le_trans (show _ ≤ 101 by omega) (by decide)
  have l3 : ys.length + 1 + t ≤ sizeLine := Nat.le_trans (show _ ≤ 103 by omega) (by decide)
  have l4 : ys.length + 1 + 1 + t ≤ sizeLine := Nat.le_trans (show _ ≤ 104 by omega) (by decide)
  have l6 : t ≤ sizeLine := Nat.le_trans ht2 (by decide)
  rcases hpp with hp0 | hp0 | hp0
  · have b0 : (p = 0) = True := eq_true hp0
    have fp : nums (pbit n p x) = [] := by rw [hp0]; exact f0
    simp [runF, ent, seqS, setS, ifS, iteS, boolT, truS, notT, andT, orT, bin2, un1, varS, litS, E.callG, g1, g2, consA, nilA, idx_sh, idx_own, idxD_list, idxD_tuple, S.look, S.cellAt, asg0, doneS, S.tr, S.base, Res.bind_ok, Res.bind_bad, retS, retN, lstS, tupS, S.frz, S.frzs, intR, addR, mulR, negR, isNR, notR, isiR, isD, truD, truOk, lenD, intD, absD, max2D, min2D, exprS, skipS, subS, putIx, putAt, augS, iaddR, andV, orV, chainS, methS, appR, S.isL, S.push, S.put, S.loneC, atD, L2.atI, ixN, sz_le, sz_lt, callF, callD_eq, pick, passL, pass1, apart, psOf, ioOf, Pa.r, Pa.cell, Pa.ioc, Pa.lc, retO, fineO, wbO, norm, lentIn, atomD, atomDs, Cell.list, List.range, List.range.loop, List.filterMap_cons, List.filterMap_nil, turnS, setT, setTs, S.clean, S.forget, List.foldl_cons, List.foldl_nil, rngI_def, rngO_some, S.ints, S.int, rng1_eq, rng2_eq, forS, par2S, par3S, waits, isNone, listD, ↓shp_1, ↓shp_2, ↓par_n, hp, b0, e1, h62, fp, l0, l1, l2, l3, l4, l6]
  · have b0 : p ≠ 0 := by omega
    have b2 : p ≠ 2 := by omega
    have fp : nums (pbit n p x) = [PyData.int (q % 2)] := by rw [hp0]; exact f1
    have ep := ep b0
    rw [if_neg b2, Int.add_zero] at ep
    simp [runF, ent, seqS, setS, ifS, iteS, boolT, truS, notT, andT, orT, bin2, un1, varS, litS, E.callG, g1, g2, consA, nilA, idx_sh, idx_own, idxD_list, idxD_tuple, S.look, S.cellAt, asg0, doneS, S.tr, S.base, Res.bind_ok, Res.bind_bad, retS, retN, lstS, tupS, S.frz, S.frzs, intR, addR, mulR, negR, isNR, notR, isiR, isD, truD, truOk, lenD, intD, absD, max2D, min2D, exprS, skipS, subS, putIx, putAt, augS, iaddR, andV, orV, chainS, methS, appR, S.isL, S.push, S.put, S.loneC, atD, L2.atI, ixN, sz_le, sz_lt, callF, callD_eq, pick, passL, pass1, apart, psOf, ioOf, Pa.r, Pa.cell, Pa.ioc, Pa.lc, retO, fineO, wbO, norm, lentIn, atomD, atomDs, Cell.list, List.range, List.range.loop, List.filterMap_cons, List.filterMap_nil, turnS, setT, setTs, S.clean, S.forget, List.foldl_cons, List.foldl_nil, rngI_def, rngO_some, S.ints, S.int, rng1_eq, rng2_eq, forS, par2S, par3S, waits, isNone, listD, ↓shp_1, ↓shp_2, ↓par_n, hp, b0, b2, e1, ep, h62, fp, l0, l1, l2, l3, l4, l6]
  · have b0 : p ≠ 0 := by omega
    have ep := ep b0
    rw [if_pos hp0] at ep
    have fp : nums (pbit n p x) = [PyData.int ((q + 1) % 2)] := by rw [hp0]; exact f2
    simp [runF, ent, seqS, setS, ifS, iteS, boolT, truS, notT, andT, orT, bin2, un1, varS, litS, E.callG, g1, g2, consA, nilA, idx_sh, idx_own, idxD_list, idxD_tuple, S.look, S.cellAt, asg0, doneS, S.tr, S.base, Res.bind_ok, Res.bind_bad, retS, retN, lstS, tupS, S.frz, S.frzs, intR, addR, mulR, negR, isNR, notR, isiR, isD, truD, truOk, lenD, intD, absD, max2D, min2D, exprS, skipS, subS, putIx, putAt, augS, iaddR, andV, orV, chainS, methS, appR, S.isL, S.push, S.put, S.loneC, atD, L2.atI, ixN, sz_le, sz_lt, callF, callD_eq, pick, passL, pass1, apart, psOf, ioOf, Pa.r, Pa.cell, Pa.ioc, Pa.lc, retO, fineO, wbO, norm, lentIn, atomD, atomDs, Cell.list, List.range, List.range.loop, List.filterMap_cons, List.filterMap_nil, turnS, setT, setTs, S.clean, S.forget, List.foldl_cons, List.foldl_nil, rngI_def, rngO_some, S.ints, S.int, rng1_eq, rng2_eq, forS, par2S, par3S, waits, isNone, listD, ↓shp_1, ↓shp_2, ↓par_n, hp, b0, e1, ep, h62, fp, l0, l1, l2, l3, l4, l6]
end E
/-! V5: the program's looks at shapes, numbers and texts. -/
namespace E
open PySem PySem.Spec PyProof.Rows L2
noncomputable def d_isint : FT := runF 1 (retS (andV (un1 (isiR .int) (varS 0)) (un1 notR (un1 (isiR .bool) (varS 0)))))
theorem isint_ok (i : Int) : outF d_isint [.sh (.int i)] [.dead] = some (.sh (.bool true), [.dead]) := by
  unfold outF d_isint
  simp [runF, ent, seqS, setS, ifS, iteS, boolT, truS, notT, andT, orT, bin2, un1, varS, litS, E.callG, g1, g2, consA, nilA, idx_sh, idx_own, idxD_list, idxD_tuple, S.look, S.cellAt, asg0, doneS, S.tr, S.base, Res.bind_ok, Res.bind_bad, retS, retN, lstS, tupS, S.frz, S.frzs, intR, addR, mulR, negR, isNR, notR, isiR, isD, truD, truOk, lenD, intD, absD, max2D, min2D, exprS, skipS, subS, putIx, putAt, augS, iaddR, andV, orV, chainS, methS, appR, S.isL, S.push, S.put, S.loneC, atD, L2.atI, ixN, sz_le, sz_lt, callF, callD_eq, pick, passL, pass1, apart, psOf, ioOf, Pa.r, Pa.cell, Pa.ioc, Pa.lc, retO, fineO, wbO, norm, lentIn, atomD, atomDs, Cell.list, List.range, List.range.loop, List.filterMap_cons, List.filterMap_nil, turnS, setT, setTs, S.clean, S.forget, List.foldl_cons, List.foldl_nil, rngI_def, rngO_some, S.ints, S.int, rng1_eq, rng2_eq, forS, par2S, par3S, waits, isNone, listD, notR]
noncomputable def d_fault : FT := runF 1 (seqS (ifS (orT (notT (truS (un1 (isiR .tuple) (varS 0)))) (boolT (bin2 (eqR true) (E.callG (g1 lenD) (consA (varS 0) nilA)) (litS (.int 3)))))
 (retS (tupS (consA (litS .none) nilA)))
 skipS)
 (seqS (ifS (orT (notT (truS (callF [false] d_isint 1 0 [0] [] (consA (bin2 idxR (varS 0) (litS (.int 0))) nilA) nilA))) (notT (boolT (chainS leR leR (litS (.int 1)) (bin2 idxR (varS 0) (litS (.int 0))) (litS (.int 9))))))
 (retS (tupS (consA (litS (.int 0)) nilA)))
 skipS)
 (seqS (ifS (orT (notT (truS (un1 (isiR .str) (bin2 idxR (varS 0) (litS (.int 1)))))) (boolT (bin2 (inR true) (bin2 idxR (varS 0) (litS (.int 1))) (litS (.tuple [.str "none", .str "even", .str "odd"])))))
 (retS (tupS (consA (litS (.int 1)) nilA)))
 skipS)
 (seqS (ifS (orT (notT (truS (callF [false] d_isint 1 0 [0] [] (consA (bin2 idxR (varS 0) (litS (.int 2))) nilA) nilA))) (notT (boolT (chainS leR leR (litS (.int 1)) (bin2 idxR (varS 0) (litS (.int 2))) (litS (.int 2))))))
 (retS (tupS (consA (litS (.int 2)) nilA)))
 skipS)
 (retS (tupS nilA))))))
theorem shp_isi (n p t : Nat) (s : S) : isiR .tuple (.sh (shp n p t)) s = .ok (.sh (.bool true)) s := rfl
theorem shp_len (n p t : Nat) (s : S) : g1 lenD [.sh (shp n p t)] s = .ok (.sh (.int 3)) s := rfl
theorem par_in {p : Nat} (h : p < 3) (s : S) : inR true (.sh (.str (par p))) (.sh (.tuple [.str "none", .str "even", .str "odd"])) s = .ok (.sh (.bool false)) s := by
  have : p = 0 ∨ p = 1 ∨ p = 2 := by omega
  rcases this with rfl | rfl | rfl
  · simp [inR, S.look, flatD, par, n_n]
  · simp [inR, S.look, flatD, par, e_e]
  · simp [inR, S.look, flatD, par, o_o]
theorem eq_int (b : Bool) (i j : Int) (s : S) : eqR b (.sh (.int i)) (.sh (.int j)) s = .ok (.sh (.bool (if b then !decide (i = j) else decide (i = j)))) s := by
  unfold eqR
  have : eqOk (.int i) (.int j) = true := rfl
  have e : PyData.eqv (.int i) (.int j) = decide (i = j) := by
    by_cases h : i = j
    · subst h
      simp [PyData.eqv]
    · simp [PyData.eqv, h]
  simp only [S.look, this, e, if_true]
theorem fault_ok (n p t : Nat) (h1 : 1 ≤ n) (h2 : n ≤ 9) (hp : p < 3) (h3 : 1 ≤ t) (h4 : t ≤ 2) : outF d_fault [.sh (shp n p t)] [.dead] = some (.sh (.tuple []), [.dead]) := by
  have a1 : (1 : Int) ≤ (n : Int) := by omega
  have a2 : (n : Int) ≤ 9 := by omega
  have a3 : (1 : Int) ≤ (t : Int) := by omega
  have a4 : (t : Int) ≤ 2 := by omega
  have i1 := isint_ok (n : Int)
  have i2 := isint_ok (t : Int)
  unfold outF d_fault
  simp [runF, ent, seqS, setS, ifS, iteS, boolT, truS, notT, andT, orT, bin2, un1, varS, litS, E.callG, g1, g2, consA, nilA, idx_sh, idx_own, idxD_list, idxD_tuple, S.look, S.cellAt, asg0, doneS, S.tr, S.base, Res.bind_ok, Res.bind_bad, retS, retN, lstS, tupS, S.frz, S.frzs, intR, addR, mulR, negR, isNR, notR, isiR, isD, truD, truOk, lenD, intD, absD, max2D, min2D, exprS, skipS, subS, putIx, putAt, augS, iaddR, andV, orV, chainS, methS, appR, S.isL, S.push, S.put, S.loneC, atD, L2.atI, ixN, sz_le, sz_lt, callF, callD_eq, pick, passL, pass1, apart, psOf, ioOf, Pa.r, Pa.cell, Pa.ioc, Pa.lc, retO, fineO, wbO, norm, lentIn, atomD, atomDs, Cell.list, List.range, List.range.loop, List.filterMap_cons, List.filterMap_nil, turnS, setT, setTs, S.clean, S.forget, List.foldl_cons, List.foldl_nil, rngI_def, rngO_some, S.ints, S.int, rng1_eq, rng2_eq, forS, par2S, par3S, waits, isNone, listD, ↓shp_0, ↓shp_1, ↓shp_2, ↓shp_isi, ↓shp_len, ↓eq_int, ↓par_in, hp, i1, i2, a1, a2, a3, a4, h1, h2, h3, h4]
theorem eq_emp (s : S) : eqR true (.sh (.tuple [])) (.sh (.tuple [])) s = .ok (.sh (.bool false)) s := rfl
noncomputable def d_reqshape : FT := runF 2 (seqS (setS 1 (callF [false] d_fault 1 0 [0] [] (consA (varS 0) nilA) nilA))
 (ifS (boolT (bin2 (eqR true) (varS 1) (tupS nilA)))
 badS
 skipS))
theorem reqshape_ok (n p t : Nat) (h1 : 1 ≤ n) (h2 : n ≤ 9) (hp : p < 3) (h3 : 1 ≤ t) (h4 : t ≤ 2) : outF d_reqshape [.sh (shp n p t)] [.dead] = some (.sh .none, [.dead]) := by
  have e := fault_ok n p t h1 h2 hp h3 h4
  unfold outF d_reqshape
  simp [runF, ent, seqS, setS, ifS, iteS, boolT, truS, notT, andT, orT, bin2, un1, varS, litS, E.callG, g1, g2, consA, nilA, idx_sh, idx_own, idxD_list, idxD_tuple, S.look, S.cellAt, asg0, doneS, S.tr, S.base, Res.bind_ok, Res.bind_bad, retS, retN, lstS, tupS, S.frz, S.frzs, intR, addR, mulR, negR, isNR, notR, isiR, isD, truD, truOk, lenD, intD, absD, max2D, min2D, exprS, skipS, subS, putIx, putAt, augS, iaddR, andV, orV, chainS, methS, appR, S.isL, S.push, S.put, S.loneC, atD, L2.atI, ixN, sz_le, sz_lt, callF, callD_eq, pick, passL, pass1, apart, psOf, ioOf, Pa.r, Pa.cell, Pa.ioc, Pa.lc, retO, fineO, wbO, norm, lentIn, atomD, atomDs, Cell.list, List.range, List.range.loop, List.filterMap_cons, List.filterMap_nil, turnS, setT, setTs, S.clean, S.forget, List.foldl_cons, List.foldl_nil, rngI_def, rngO_some, S.ints, S.int, rng1_eq, rng2_eq, forS, par2S, par3S, waits, isNone, listD, ↓eq_emp, e]
noncomputable def d_fits : FT := runF 2 (retS (andV (callF [false] d_isint 1 0 [0] [] (consA (varS 1) nilA) nilA) (chainS leR ltR (litS (.int 0)) (varS 1) (bin2 shlR (litS (.int 1)) (bin2 idxR (varS 0) (litS (.int 0)))))))
theorem fits_ok (n p t x : Nat) (h2 : n ≤ 9) (hx : x < 2 ^ n) : outF d_fits [.sh (shp n p t), .sh (.int x)] [.dead, .dead] = some (.sh (.bool true), [.dead, .dead]) := by
  have i1 := isint_ok (x : Int)
  have hs : cShl 1 (n : Int) := by
    have hl : (1 : Int).natAbs.log2 = 0 := by decide +kernel
    refine ⟨by omega, ?_⟩
    rw [Int.toNat_natCast, hl]
    omega
  have hx2 : (x : Int) < 2 ^ n := by exact_mod_cast hx
  unfold outF d_fits
  simp [runF, ent, seqS, setS, ifS, iteS, boolT, truS, notT, andT, orT, bin2, un1, varS, litS, E.callG, g1, g2, consA, nilA, idx_sh, idx_own, idxD_list, idxD_tuple, S.look, S.cellAt, asg0, doneS, S.tr, S.base, Res.bind_ok, Res.bind_bad, retS, retN, lstS, tupS, S.frz, S.frzs, intR, addR, mulR, negR, isNR, notR, isiR, isD, truD, truOk, lenD, intD, absD, max2D, min2D, exprS, skipS, subS, putIx, putAt, augS, iaddR, andV, orV, chainS, methS, appR, S.isL, S.push, S.put, S.loneC, atD, L2.atI, ixN, sz_le, sz_lt, callF, callD_eq, pick, passL, pass1, apart, psOf, ioOf, Pa.r, Pa.cell, Pa.ioc, Pa.lc, retO, fineO, wbO, norm, lentIn, atomD, atomDs, Cell.list, List.range, List.range.loop, List.filterMap_cons, List.filterMap_nil, turnS, setT, setTs, S.clean, S.forget, List.foldl_cons, List.foldl_nil, rngI_def, rngO_some, S.ints, S.int, rng1_eq, rng2_eq, forS, par2S, par3S, waits, isNone, listD, ↓shp_0, i1, hs, hx2]
noncomputable def d_reqnum : FT := runF 2 (ifS (notT (truS (callF [false, false] d_fits 2 0 [0, 1] [] (consA (varS 0) (consA (varS 1) nilA)) nilA)))
 badS
 skipS)
theorem reqnum_ok (n p t x : Nat) (h2 : n ≤ 9) (hx : x < 2 ^ n) : outF d_reqnum [.sh (shp n p t), .sh (.int x)] [.dead, .dead] = some (.sh .none, [.dead, .dead]) := by
  have e := fits_ok n p t x h2 hx
  unfold outF d_reqnum
  simp [runF, ent, seqS, setS, ifS, iteS, boolT, truS, notT, andT, orT, bin2, un1, varS, litS, E.callG, g1, g2, consA, nilA, idx_sh, idx_own, idxD_list, idxD_tuple, S.look, S.cellAt, asg0, doneS, S.tr, S.base, Res.bind_ok, Res.bind_bad, retS, retN, lstS, tupS, S.frz, S.frzs, intR, addR, mulR, negR, isNR, notR, isiR, isD, truD, truOk, lenD, intD, absD, max2D, min2D, exprS, skipS, subS, putIx, putAt, augS, iaddR, andV, orV, chainS, methS, appR, S.isL, S.push, S.put, S.loneC, atD, L2.atI, ixN, sz_le, sz_lt, callF, callD_eq, pick, passL, pass1, apart, psOf, ioOf, Pa.r, Pa.cell, Pa.ioc, Pa.lc, retO, fineO, wbO, norm, lentIn, atomD, atomDs, Cell.list, List.range, List.range.loop, List.filterMap_cons, List.filterMap_nil, turnS, setT, setTs, S.clean, S.forget, List.foldl_cons, List.foldl_nil, rngI_def, rngO_some, S.ints, S.int, rng1_eq, rng2_eq, forS, par2S, par3S, waits, isNone, listD, e]
noncomputable def d_frameof : FT := runF 2 (seqS (exprS (callF [false] d_reqshape 1 0 [0] [] (consA (varS 0) nilA) nilA))
 (seqS (exprS (callF [false, false] d_reqnum 2 0 [0, 1] [] (consA (varS 0) (consA (varS 1) nilA)) nilA))
 (retS (callF [false, false] d_flevels 2 0 [0, 1] [] (consA (varS 0) (consA (varS 1) nilA)) nilA))))
theorem frameof_ok (n p t x : Nat) (h1 : 1 ≤ n) (h2 : n ≤ 9) (hp : p < 3) (ht : t = 1 ∨ t = 2) (hx : x < 2 ^ n) : outF d_frameof [.sh (shp n p t), .sh (.int x)] [.dead, .dead] = some (.new (nums (frame n p t x)), [.dead, .dead]) := by
  have e1 := reqshape_ok n p t h1 h2 hp (by omega) (by omega)
  have e2 := reqnum_ok n p t x h2 hx
  have e3 := flevels_ok n p t x h2 hp ht
  unfold outF d_frameof
  simp [runF, ent, seqS, setS, ifS, iteS, boolT, truS, notT, andT, orT, bin2, un1, varS, litS, E.callG, g1, g2, consA, nilA, idx_sh, idx_own, idxD_list, idxD_tuple, S.look, S.cellAt, asg0, doneS, S.tr, S.base, Res.bind_ok, Res.bind_bad, retS, retN, lstS, tupS, S.frz, S.frzs, intR, addR, mulR, negR, isNR, notR, isiR, isD, truD, truOk, lenD, intD, absD, max2D, min2D, exprS, skipS, subS, putIx, putAt, augS, iaddR, andV, orV, chainS, methS, appR, S.isL, S.push, S.put, S.loneC, atD, L2.atI, ixN, sz_le, sz_lt, callF, callD_eq, pick, passL, pass1, apart, psOf, ioOf, Pa.r, Pa.cell, Pa.ioc, Pa.lc, retO, fineO, wbO, norm, lentIn, atomD, atomDs, Cell.list, List.range, List.range.loop, List.filterMap_cons, List.filterMap_nil, turnS, setT, setTs, S.clean, S.forget, List.foldl_cons, List.foldl_nil, rngI_def, rngO_some, S.ints, S.int, rng1_eq, rng2_eq, forS, par2S, par3S, waits, isNone, listD, e1, e2, e3]
noncomputable def d_reqtext : FT := runF 6 (seqS (ifS (orT (notT (truS (un1 (isiR .list) (varS 1)))) (notT (boolT (chainS leR leR (varS 2) (E.callG (g1 lenD) (consA (varS 1) nilA)) (varS 3)))))
 badS
 skipS)
 (forS (enumI (consA (varS 1) nilA)) (.tp [(.nm 4), (.nm 5)]) [1, 2, 3, 4, 5]
 (ifS (notT (truS (callF [false, false] d_fits 2 0 [0, 1] [] (consA (varS 0) (consA (varS 5) nilA)) nilA)))
 badS
 skipS)))
theorem nums_get {xs : List Nat} {i : Nat} {d : D} (h : (nums xs)[i]? = some d) : ∃ x, xs[i]? = some x ∧ d = .int (x : Int) := by
  unfold nums at h
  rw [List.getElem?_map] at h
  cases e : xs[i]? with
  | none => rw [e] at h; cases h
  | some x => rw [e] at h; exact ⟨x, rfl, (Option.some.inj h).symm⟩
theorem enumD_at {n : Nat} {ds : List D} {i : Nat} {d : D} (h : (enumD n ds)[i]? = some d) : ∃ e, ds[i]? = some e ∧ d = .tuple [.int ((n + i : Nat) : Int), e] := by
  have hi : i < ds.length := by
    have := (List.getElem?_eq_some_iff.mp h).1
    rwa [enumD_len] at this
  have e := List.getElem?_eq_getElem hi
  rw [enumD_get n ds i _ e] at h
  exact ⟨_, e, (Option.some.inj h).symm⟩
theorem reqtext_ok (n p t : Nat) (h2 : n ≤ 9) (xs : List Nat) (hx : ∀ x ∈ xs, x < 2 ^ n) (hl : xs.length ≤ 60) : outF d_reqtext [.sh (shp n p t), .sh (.list (nums xs)), .sh (.int 0), .sh (.int 60)] [.dead, .dead, .dead, .dead] = some (.sh .none, [.dead, .dead, .dead, .dead]) := by
  have e := loop_eq (g := .tp [(.nm 4), (.nm 5)]) (dr := [1, 2, 3, 4, 5]) (cs := []) (ds := enumD 0 (nums xs)) (body := ifS (notT (truS (callF [false, false] d_fits 2 0 [0, 1] [] (consA (varS 0) (consA (varS 5) nilA)) nilA)))
 badS
 skipS) (fun _ => ⟨[some (.sh (shp n p t)), none, none, none, none, none], List.replicate 10 .dead, 4⟩) (fun i d hd => by
    obtain ⟨e0, h0, rfl⟩ := enumD_at hd
    obtain ⟨x, h1, rfl⟩ := nums_get h0
    have ef := fits_ok n p t x h2 (hx x (List.mem_of_getElem? h1))
    simp [runF, ent, seqS, setS, ifS, iteS, boolT, truS, notT, andT, orT, bin2, un1, varS, litS, E.callG, g1, g2, consA, nilA, idx_sh, idx_own, idxD_list, idxD_tuple, S.look, S.cellAt, asg0, doneS, S.tr, S.base, Res.bind_ok, Res.bind_bad, retS, retN, lstS, tupS, S.frz, S.frzs, intR, addR, mulR, negR, isNR, notR, isiR, isD, truD, truOk, lenD, intD, absD, max2D, min2D, exprS, skipS, subS, putIx, putAt, augS, iaddR, andV, orV, chainS, methS, appR, S.isL, S.push, S.put, S.loneC, atD, L2.atI, ixN, sz_le, sz_lt, callF, callD_eq, pick, passL, pass1, apart, psOf, ioOf, Pa.r, Pa.cell, Pa.ioc, Pa.lc, retO, fineO, wbO, norm, lentIn, atomD, atomDs, Cell.list, List.range, List.range.loop, List.filterMap_cons, List.filterMap_nil, turnS, setT, setTs, S.clean, S.forget, List.foldl_cons, List.foldl_nil, rngI_def, rngO_some, S.ints, S.int, rng1_eq, rng2_eq, forS, par2S, par3S, waits, isNone, listD, ef])
  have hl2 : (xs.length : Int) ≤ 60 := by omega
  have ln := nums_len xs
  unfold outF d_reqtext
  simp at e
  generalize nums xs = ys at *
  simp [runF, ent, seqS, setS, ifS, iteS, boolT, truS, notT, andT, orT, bin2, un1, varS, litS, E.callG, g1, g2, consA, nilA, idx_sh, idx_own, idxD_list, idxD_tuple, S.look, S.cellAt, asg0, doneS, S.tr, S.base, Res.bind_ok, Res.bind_bad, retS, retN, lstS, tupS, S.frz, S.frzs, intR, addR, mulR, negR, isNR, notR, isiR, isD, truD, truOk, lenD, intD, absD, max2D, min2D, exprS, skipS, subS, putIx, putAt, augS, iaddR, andV, orV, chainS, methS, appR, S.isL, S.push, S.put, S.loneC, atD, L2.atI, ixN, sz_le, sz_lt, callF, callD_eq, pick, passL, pass1, apart, psOf, ioOf, Pa.r, Pa.cell, Pa.ioc, Pa.lc, retO, fineO, wbO, norm, lentIn, atomD, atomDs, Cell.list, List.range, List.range.loop, List.filterMap_cons, List.filterMap_nil, turnS, setT, setTs, S.clean, S.forget, List.foldl_cons, List.foldl_nil, rngI_def, rngO_some, S.ints, S.int, rng1_eq, rng2_eq, forS, par2S, par3S, waits, isNone, listD, enumI, lkL, ln, hl2, hl, e, S.unl, badS]
end E
/-! V6: comprehensions of two sources; levels of a text. -/
namespace E
open PySem PySem.Spec PyProof.Rows L2
theorem compG_eq {it : IS} {g : Tg} {vs : List Nat} {ft : TS'} {bd : Nat → S → Option S} {s s1 : S} {ds : List D} {cs : List Nat} (e : it s = .ok (ds, cs) s1) (out : Nat → List D) (h0 : out 0 = [])
    (hs : ∀ i d, ds[i]? = some d → cturn g ft (bd s1.ce.length) (wipeS vs s1.sl) (s1.ce.length + 1) d ⟨wipeS vs s1.sl, s1.ce ++ [.lv (out i)], s1.np⟩ = some ⟨wipeS vs s1.sl, s1.ce ++ [.lv (out (i + 1))], s1.np⟩) :
    compG it g vs ft bd s = .ok (.own s1.ce.length) ((⟨s1.sl, s1.ce ++ [.lv (out ds.length)], s1.np⟩ : S).unl cs) := by
  unfold compG
  rw [e]
  have c := compL_ind (g := g) (ft := ft) (bd := bd s1.ce.length) (sl := wipeS vs s1.sl) (m := s1.ce.length + 1) (ds := ds) (fun i => ⟨wipeS vs s1.sl, s1.ce ++ [.lv (out i)], s1.np⟩) 0 (fun i d h => by rw [Nat.zero_add]; exact hs i d h)
  rw [Nat.zero_add, h0] at c
  show (match compL g ft (bd s1.ce.length) (wipeS vs s1.sl) (s1.ce.length + 1) ds ⟨wipeS vs s1.sl, s1.ce ++ [.lv []], s1.np⟩ with
    | some s2 => _
    | none => _) = _
  rw [c]
  show Res.ok (R.own s1.ce.length) (S.unl cs ⟨s1.sl, (s1.ce ++ [Cell.lv (out ds.length)]).take (s1.ce.length + 1), s1.np⟩) = _
  rw [List.take_of_length_le (by simp)]
theorem inner_eq {it : IS} {g : Tg} {vs : List Nat} {ft : TS'} {bd : S → Option S} {s s1 : S} {ds : List D} (st : Nat → S) (e : it s = .ok (ds, []) s1) (h0 : st 0 = { s1 with sl := wipeS vs s1.sl })
    (hs : ∀ i d, ds[i]? = some d → cturn g ft bd (wipeS vs s1.sl) s1.ce.length d (st i) = some (st (i + 1))) : innerL it g vs ft bd s = some (st ds.length) := by
  unfold innerL
  rw [e]
  dsimp only
  have c := compL_ind (g := g) (ft := ft) (bd := bd) (sl := wipeS vs s1.sl) (m := s1.ce.length) (ds := ds) st 0 (fun i d h => by rw [Nat.zero_add]; exact hs i d h)
  rw [Nat.zero_add, h0] at c
  rw [c]
  rfl
/-- the levels of the first i numbers, one behind another -/
def lev (n p t : Nat) (xs : List Nat) : List Nat := xs.flatMap (frame n p t)
theorem frame_len (n p t x : Nat) : (frame n p t x).length ≤ n + t + 2 := by
  have : (pbit n p x).length ≤ 1 := by
    unfold pbit
    split
    · simp
    · split <;> simp
  simp only [frame, List.length_append, bits_len, List.length_replicate, List.length_cons, List.length_nil]
  omega
theorem lev_len (n p t : Nat) : ∀ xs : List Nat, (lev n p t xs).length ≤ xs.length * (n + t + 2)
  | [] => by simp [lev]
  | x :: xs => by
    have h1 := frame_len n p t x
    have h2 := lev_len n p t xs
    have : lev n p t (x :: xs) = frame n p t x ++ lev n p t xs := by simp [lev]
    rw [this, List.length_append, List.length_cons, Nat.add_mul]
    omega
theorem lev_take (n p t : Nat) (xs : List Nat) {i x : Nat} (h : xs[i]? = some x) : lev n p t (xs.take (i + 1)) = lev n p t (xs.take i) ++ frame n p t x := by
  rw [List.take_add_one, h]
  simp [lev]
noncomputable def d_levels : FT := runF 4 (seqS (exprS (callF [false] d_reqshape 1 0 [0] [] (consA (varS 0) nilA) nilA))
 (seqS (exprS (callF [false, false, false, false] d_reqtext 2 0 [0, 1, 2, 3] [.int 0, .int 60] (consA (varS 0) (consA (varS 1) nilA)) nilA))
 (retS (comp2S (seqI (varS 1)) (.nm 2) [2, 3] yesT (seqI (callF [false, false] d_flevels 2 0 [0, 1] [] (consA (varS 0) (consA (varS 2) nilA)) nilA)) (.nm 3) [3] yesT (varS 3)))))
theorem levels_comp (n p t : Nat) (h2 : n ≤ 9) (hp : p < 3) (ht : t = 1 ∨ t = 2) (xs : List Nat) (hl : xs.length ≤ 60) :
    comp2S (seqI (varS 1)) (.nm 2) [2, 3] yesT (seqI (callF [false, false] d_flevels 2 0 [0, 1] [] (consA (varS 0) (consA (varS 2) nilA)) nilA)) (.nm 3) [3] yesT (varS 3) ⟨[some (.sh (shp n p t)), some (.sh (.list (nums xs))), none, none], [.dead, .dead, .dead, .dead, .dead, .dead], 2⟩ =
    .ok (.own 6) ⟨[some (.sh (shp n p t)), some (.sh (.list (nums xs))), none, none], [.dead, .dead, .dead, .dead, .dead, .dead, .lv (nums (lev n p t xs))], 2⟩ := by
  have e : seqI (varS 1) ⟨[some (.sh (shp n p t)), some (.sh (.list (nums xs))), none, none], [.dead, .dead, .dead, .dead, .dead, .dead], 2⟩ = .ok (nums xs, []) ⟨[some (.sh (shp n p t)), some (.sh (.list (nums xs))), none, none], [.dead, .dead, .dead, .dead, .dead, .dead], 2⟩ := by
    simp [seqI, varS, lkL]
  unfold comp2S
  rw [compG_eq e (fun i => nums (lev n p t (xs.take i))) rfl]
  · rw [nums_len, List.take_length]
    rfl
  · intro i d hd
    obtain ⟨x, hx, rfl⟩ := nums_get hd
    have ef := flevels_ok n p t x h2 hp ht
    have hi : i < xs.length := (List.getElem?_eq_some_iff.mp hx).1
    -- the inner loop
    have inn : innerL (seqI (callF [false, false] d_flevels 2 0 [0, 1] [] (consA (varS 0) (consA (varS 2) nilA)) nilA)) (.nm 3) [3] yesT (addE (varS 3) 6)
        ⟨[some (.sh (shp n p t)), some (.sh (.list (nums xs))), some (.sh (.int x)), none], [.dead, .dead, .dead, .dead, .dead, .dead, .lv (nums (lev n p t (xs.take i)))], 2⟩ =
        some ⟨[some (.sh (shp n p t)), some (.sh (.list (nums xs))), some (.sh (.int x)), none], [.dead, .dead, .dead, .dead, .dead, .dead, .lv (nums (lev n p t (xs.take i)) ++ nums (frame n p t x)), .fz (nums (frame n p t x))], 2⟩ := by
      have e1 : seqI (callF [false, false] d_flevels 2 0 [0, 1] [] (consA (varS 0) (consA (varS 2) nilA)) nilA) ⟨[some (.sh (shp n p t)), some (.sh (.list (nums xs))), some (.sh (.int x)), none], [.dead, .dead, .dead, .dead, .dead, .dead, .lv (nums (lev n p t (xs.take i)))], 2⟩ =
          .ok (nums (frame n p t x), []) ⟨[some (.sh (shp n p t)), some (.sh (.list (nums xs))), some (.sh (.int x)), none], [.dead, .dead, .dead, .dead, .dead, .dead, .lv (nums (lev n p t (xs.take i))), .fz (nums (frame n p t x))], 2⟩ := by
        simp [runF, ent, seqS, setS, ifS, iteS, boolT, truS, notT, andT, orT, bin2, un1, varS, litS, E.callG, g1, g2, consA, nilA, idx_sh, idx_own, idxD_list, idxD_tuple, S.look, S.cellAt, asg0, doneS, S.tr, S.base, Res.bind_ok, Res.bind_bad, retS, retN, lstS, tupS, S.frz, S.frzs, intR, addR, mulR, negR, isNR, notR, isiR, isD, truD, truOk, lenD, intD, absD, max2D, min2D, exprS, skipS, subS, putIx, putAt, augS, iaddR, andV, orV, chainS, methS, appR, S.isL, S.push, S.put, S.loneC, atD, L2.atI, ixN, sz_le, sz_lt, callF, callD_eq, pick, passL, pass1, apart, psOf, ioOf, Pa.r, Pa.cell, Pa.ioc, Pa.lc, retO, fineO, wbO, norm, lentIn, atomD, atomDs, Cell.list, List.range, List.range.loop, List.filterMap_cons, List.filterMap_nil, turnS, setT, setTs, S.clean, S.forget, List.foldl_cons, List.foldl_nil, rngI_def, rngO_some, S.ints, S.int, rng1_eq, rng2_eq, forS, par2S, par3S, waits, isNone, listD, seqI, lkL, lockI, ef]
      have hz : (lev n p t (xs.take i)).length ≤ 60 * 13 := by
        have a := lev_len n p t (xs.take i)
        have b : (xs.take i).length ≤ 60 := by rw [List.length_take]; omega
        have c : (xs.take i).length * (n + t + 2) ≤ 60 * 13 := Nat.mul_le_mul b (by omega)
        omega
      have fl := frame_len n p t x
      rw [inner_eq (fun j => ⟨[some (.sh (shp n p t)), some (.sh (.list (nums xs))), some (.sh (.int x)), none], [.dead, .dead, .dead, .dead, .dead, .dead, .lv (nums (lev n p t (xs.take i)) ++ nums ((frame n p t x).take j)), .fz (nums (frame n p t x))], 2⟩) e1 (by simp [wipeS, nums])]
      · rw [nums_len, List.take_length]
      · intro j d hj
        obtain ⟨y, hy, rfl⟩ := nums_get hj
        have hj2 := (List.getElem?_eq_some_iff.mp hy).1
        have et : nums ((frame n p t x).take (j + 1)) = nums ((frame n p t x).take j) ++ [.int (y : Int)] := by
          rw [List.take_add_one, hy, nums_app]
          rfl
        have lz : (nums (lev n p t (xs.take i)) ++ nums ((frame n p t x).take j)).length < sizeLine := by
          rw [List.length_append, nums_len, nums_len, List.length_take]
          exact Nat.lt_of_le_of_lt (show _ ≤ 1000 by omega) (by decide)
        dsimp only
        rw [et, ← List.append_assoc]
        generalize nums (lev n p t (xs.take i)) ++ nums ((frame n p t x).take j) = ys at lz ⊢
        generalize nums (frame n p t x) = fs
        simp [runF, ent, seqS, setS, ifS, iteS, boolT, truS, notT, andT, orT, bin2, un1, varS, litS, E.callG, g1, g2, consA, nilA, idx_sh, idx_own, idxD_list, idxD_tuple, S.look, S.cellAt, asg0, doneS, S.tr, S.base, Res.bind_ok, Res.bind_bad, retS, retN, lstS, tupS, S.frz, S.frzs, intR, addR, mulR, negR, isNR, notR, isiR, isD, truD, truOk, lenD, intD, absD, max2D, min2D, exprS, skipS, subS, putIx, putAt, augS, iaddR, andV, orV, chainS, methS, appR, S.isL, S.push, S.put, S.loneC, atD, L2.atI, ixN, sz_le, sz_lt, callF, callD_eq, pick, passL, pass1, apart, psOf, ioOf, Pa.r, Pa.cell, Pa.ioc, Pa.lc, retO, fineO, wbO, norm, lentIn, atomD, atomDs, Cell.list, List.range, List.range.loop, List.filterMap_cons, List.filterMap_nil, turnS, setT, setTs, S.clean, S.forget, List.foldl_cons, List.foldl_nil, rngI_def, rngO_some, S.ints, S.int, rng1_eq, rng2_eq, forS, par2S, par3S, waits, isNone, listD, cturn, addE, addC, wipeS, S.back, yesT, lz]
    dsimp only
    rw [lev_take n p t xs hx, nums_app]
    generalize nums (lev n p t (xs.take i)) = ys at inn ⊢
    generalize nums (frame n p t x) = fs at inn ⊢
    simp [runF, ent, seqS, setS, ifS, iteS, boolT, truS, notT, andT, orT, bin2, un1, varS, litS, E.callG, g1, g2, consA, nilA, idx_sh, idx_own, idxD_list, idxD_tuple, S.look, S.cellAt, asg0, doneS, S.tr, S.base, Res.bind_ok, Res.bind_bad, retS, retN, lstS, tupS, S.frz, S.frzs, intR, addR, mulR, negR, isNR, notR, isiR, isD, truD, truOk, lenD, intD, absD, max2D, min2D, exprS, skipS, subS, putIx, putAt, augS, iaddR, andV, orV, chainS, methS, appR, S.isL, S.push, S.put, S.loneC, atD, L2.atI, ixN, sz_le, sz_lt, callF, callD_eq, pick, passL, pass1, apart, psOf, ioOf, Pa.r, Pa.cell, Pa.ioc, Pa.lc, retO, fineO, wbO, norm, lentIn, atomD, atomDs, Cell.list, List.range, List.range.loop, List.filterMap_cons, List.filterMap_nil, turnS, setT, setTs, S.clean, S.forget, List.foldl_cons, List.foldl_nil, rngI_def, rngO_some, S.ints, S.int, rng1_eq, rng2_eq, forS, par2S, par3S, waits, isNone, listD, cturn, wipeS, S.back, yesT, inn]
theorem levels_ok (n p t : Nat) (h1 : 1 ≤ n) (h2 : n ≤ 9) (hp : p < 3) (ht : t = 1 ∨ t = 2) (xs : List Nat) (hx : ∀ x ∈ xs, x < 2 ^ n) (hl : xs.length ≤ 60) : outF d_levels [.sh (shp n p t), .sh (.list (nums xs))] [.dead, .dead] = some (.new (nums (lev n p t xs)), [.dead, .dead]) := by
  have e1 := reqshape_ok n p t h1 h2 hp (by omega) (by omega)
  have e2 := reqtext_ok n p t h2 xs hx hl
  have e3 := levels_comp n p t h2 hp ht xs hl
  unfold outF d_levels
  generalize nums xs = ys at *
  simp [runF, ent, seqS, setS, ifS, iteS, boolT, truS, notT, andT, orT, bin2, un1, varS, litS, E.callG, g1, g2, consA, nilA, idx_sh, idx_own, idxD_list, idxD_tuple, S.look, S.cellAt, asg0, doneS, S.tr, S.base, Res.bind_ok, Res.bind_bad, retS, retN, lstS, tupS, S.frz, S.frzs, intR, addR, mulR, negR, isNR, notR, isiR, isD, truD, truOk, lenD, intD, absD, max2D, min2D, exprS, skipS, subS, putIx, putAt, augS, iaddR, andV, orV, chainS, methS, appR, S.isL, S.push, S.put, S.loneC, atD, L2.atI, ixN, sz_le, sz_lt, callF, callD_eq, pick, passL, pass1, apart, psOf, ioOf, Pa.r, Pa.cell, Pa.ioc, Pa.lc, retO, fineO, wbO, norm, lentIn, atomD, atomDs, Cell.list, List.range, List.range.loop, List.filterMap_cons, List.filterMap_nil, turnS, setT, setTs, S.clean, S.forget, List.foldl_cons, List.foldl_nil, rngI_def, rngO_some, S.ints, S.int, rng1_eq, rng2_eq, forS, par2S, par3S, waits, isNone, listD, e1, e2, e3]
end E
/-! V7: repr of texts; k03's comparison. -/
namespace E
open PySem PySem.Spec PyProof.Rows L2
theorem short512 : ∀ x : Fin 512, decide ((PyData.shown (.int ((x.val : Nat) : Int))).length ≤ 13) = true := by decide +kernel
theorem nums_facts : ∀ xs : List Nat, (∀ x ∈ xs, x < 512) → PyData.showableAll (nums xs) = true ∧ PyData.hasDictAll (nums xs) = false ∧ PyData.leavesShortAll 13 (nums xs) = true ∧ PyData.weightAll (nums xs) ≤ 10 * xs.length ∧ PyData.depthAll (nums xs) ≤ 2
  | [], _ => ⟨rfl, rfl, rfl, by decide, by decide⟩
  | x :: xs, h => by
    obtain ⟨a, b, c, d, e⟩ := nums_facts xs fun y hy => h y (List.mem_cons_of_mem _ hy)
    have hx := h x List.mem_cons_self
    have s := short512 ⟨x, hx⟩
    have lg : x.log2 ≤ 8 := log_small (show x < 2 ^ (8 + 1) by omega)
    have en : nums (x :: xs) = .int (x : Int) :: nums xs := rfl
    rw [en]
    refine ⟨?_, ?_, ?_, ?_, ?_⟩
    · simp [PyData.showableAll, PyData.showable, a]
      omega
    · simp [PyData.hasDictAll, PyData.hasDict, b]
    · simp only [PyData.leavesShortAll, PyData.leavesShort, c, Bool.and_true]
      exact s
    · simp only [PyData.weightAll, PyData.weight, Int.natAbs_natCast, List.length_cons]
      split <;> omega
    · simp [PyData.depthAll, PyData.depth]
      omega
/-- what repr makes of a text -/
def rp (xs : List Nat) : Str := (PyData.list (nums xs)).shown
theorem repr_ok {xs : List Nat} (h : ∀ x ∈ xs, x < 512) (hl : xs.length ≤ 2000) {s : S} {r : R} (hr : s.look r = some (.list (nums xs))) : g1 reprD [r] s = .ok (.sh (.str (rp xs))) s := by
  obtain ⟨a, b, c, d, e⟩ := nums_facts xs h
  have l := PyData.shown_le 13 (by decide) (.list (nums xs)) (by simpa [PyData.leavesShort] using c)
  have lw : (PyData.list (nums xs)).weight = PyData.weightAll (nums xs) := by simp [PyData.weight]
  have sz : (PyData.list (nums xs)).shown.length ≤ sizeLine := by
    rw [lw] at l
    exact Nat.le_trans (show _ ≤ 400000 by omega) (by decide)
  have c1 : (PyData.list (nums xs)).showable = true := by simpa [PyData.showable] using a
  have c2 : (PyData.list (nums xs)).hasDict = false := by simpa [PyData.hasDict] using b
  have c3 : (PyData.list (nums xs)).depth ≤ 50 := by simp only [PyData.depth]; omega
  show (match s.look r with | some d => reprD d s | none => .bad) = _
  rw [hr]
  show (if _ then _ else _) = _
  rw [if_pos ⟨c1, c2, c3, sz⟩]
  rfl
theorem eq_rp (b : Bool) (x : Str) (s : S) : eqR b (.sh (.str x)) (.sh (.str x)) s = .ok (.sh (.bool (if b then false else true))) s := by
  have e : PyData.eqv (.str x) (.str x) = true := by simp [PyData.eqv]
  unfold eqR
  simp only [S.look, eqOk_str, e, if_true]
  cases b <;> rfl
theorem atom_nums : ∀ xs : List Nat, atomDs (nums xs) = true
  | [] => rfl
  | x :: xs => by
    have : nums (x :: xs) = .int (x : Int) :: nums xs := rfl
    rw [this]
    simp [atomDs, atomD, atom_nums xs]
theorem bits_le1 (n x y : Nat) (h : y ∈ bits n x) : y < 2 := by
  unfold bits at h
  obtain ⟨i, _, rfl⟩ := List.mem_map.mp h
  omega
theorem frame_le1 (n p t x y : Nat) (h : y ∈ frame n p t x) : y < 512 := by
  unfold frame at h
  simp only [List.mem_append, List.mem_cons, List.not_mem_nil, or_false] at h
  rcases h with ((h | h) | h) | h
  · omega
  · have := bits_le1 n x y h; omega
  · unfold pbit at h
    split at h
    · simp at h
    · split at h
      · have : y = (bits n x).sum % 2 := by simpa using h
        omega
      · have : y = 1 - (bits n x).sum % 2 := by simpa using h
        omega
  · have := (List.mem_replicate.mp h).2
    omega
theorem lev_le1 (n p t : Nat) (xs : List Nat) : ∀ y ∈ lev n p t xs, y < 512 := fun y h => by
  unfold lev at h
  obtain ⟨x, _, hx⟩ := List.mem_flatMap.mp h
  exact frame_le1 n p t x y hx
end E
/-! V8: k03's comparison. -/
namespace E
open PySem PySem.Spec PyProof.Rows L2
theorem reprD_ok {xs : List Nat} (h : ∀ x ∈ xs, x < 512) (hl : xs.length ≤ 2000) (s : S) : reprD (.list (nums xs)) s = .ok (.sh (.str (rp xs))) s := by
  have := repr_ok h hl (s := s) (r := .sh (.list (nums xs))) rfl
  exact this
theorem lev_one (n p t x : Nat) : lev n p t [x] = frame n p t x := by simp [lev]
theorem at_one (x : Nat) : atD (nums [x]) 0 = some (.int (x : Int)) := rfl
theorem cut1 (xs : List Nat) : cutD (nums xs ++ [PyData.int 0]) none (some 1) = nums [xs.headD 0] := by
  cases xs with
  | nil => rfl
  | cons x xs =>
    have e : nums (x :: xs) = .int (x : Int) :: nums xs := rfl
    rw [e]
    simp [cutD, HT.sIx, nums]
noncomputable def d_right : FT := runF 6 (seqS (par2S 2 3 (consA (lstS nilA) (consA (E.callG (g1 listD) (consA (varS 1) nilA)) nilA)))
 (seqS (forS (seqI (varS 1)) (.nm 4) [4, 5]
 (setS 2 (bin2 addR (varS 2) (callF [false, false] d_lframe 2 0 [0, 1] [] (consA (varS 0) (consA (varS 4) nilA)) nilA))))
 (seqS (setS 5 (callF [false, false] d_levels 2 0 [0, 1] [] (consA (varS 0) (consA (varS 3) nilA)) nilA))
 (seqS (ifS (orT (boolT (bin2 (eqR true) (E.callG (g1 reprD) (consA (varS 5) nilA)) (E.callG (g1 reprD) (consA (varS 2) nilA)))) (boolT (bin2 (eqR true) (E.callG (g1 reprD) (consA (varS 3) nilA)) (E.callG (g1 reprD) (consA (varS 1) nilA)))))
 (retS (litS (.bool false)))
 skipS)
 (seqS (exprS (methS appR (varS 5) (consA (litS (.int 1)) nilA)))
 (seqS (exprS (methS appR (varS 3) (consA (litS (.int 0)) nilA)))
 (seqS (ifS (boolT (bin2 (eqR true) (E.callG (g1 reprD) (consA (callF [false, false] d_levels 2 0 [0, 1] [] (consA (varS 0) (consA (varS 1) nilA)) nilA) nilA)) (E.callG (g1 reprD) (consA (varS 2) nilA))))
 (retS (litS (.bool false)))
 skipS)
 (seqS (setS 3 (sliS (varS 3) noO (someO (litS (.int 1)))))
 (retS (bin2 (eqR false) (E.callG (g1 reprD) (consA (callF [false, false] d_levels 0 2 [1, 0] [] nilA (consA (varS 3) (consA (varS 0) nilA))) nilA)) (E.callG (g1 reprD) (consA (callF [false, false] d_frameof 2 0 [0, 1] [] (consA (varS 0) (consA (bin2 idxR (varS 3) (litS (.int 0))) nilA)) nilA) nilA))))))))))))
theorem right_ok (n p t : Nat) (h1 : 1 ≤ n) (h2 : n ≤ 9) (hp : p < 3) (ht : t = 1 ∨ t = 2) (xs : List Nat) (hx : ∀ x ∈ xs, x < 2 ^ n) (hl : xs.length ≤ 60) : outF d_right [.sh (shp n p t), .sh (.list (nums xs))] [.dead, .dead] = some (.sh (.bool true), [.dead, .dead]) := by
  have p9 : 2 ^ n ≤ 512 := Nat.pow_le_pow_right (n := 2) (by decide) h2
  obtain ⟨x0, hx0, cu⟩ : ∃ x0 : Nat, x0 < 2 ^ n ∧ cutD (nums xs ++ [PyData.int 0]) none (some 1) = nums [x0] := by
    refine ⟨xs.headD 0, ?_, cut1 xs⟩
    cases xs with
    | nil => exact Nat.two_pow_pos n
    | cons x xs => exact hx x List.mem_cons_self
  have ev := levels_ok n p t h1 h2 hp ht xs hx hl
  have ev0 := levels_ok n p t h1 h2 hp ht [x0] (fun x h => by rw [List.mem_singleton.mp h]; exact hx0) (by simp)
  have ef := frameof_ok n p t x0 h1 h2 hp ht hx0
  have ll : (lev n p t xs).length ≤ 60 * 13 := Nat.le_trans (lev_len n p t xs) (Nat.mul_le_mul hl (by omega))
  have r1 := fun s => reprD_ok (lev_le1 n p t xs) (show (lev n p t xs).length ≤ 2000 by omega) s
  have r2 := fun s => reprD_ok (xs := xs) (fun x h => Nat.lt_of_lt_of_le (hx x h) p9) (show xs.length ≤ 2000 by omega) s
  have fl := frame_len n p t x0
  have r3 := fun s => reprD_ok (xs := frame n p t x0) (fun y h => frame_le1 n p t _ y h) (by omega) s
  rw [lev_one] at ev0
  have z1 : (nums (lev n p t xs)).length < sizeLine := by rw [nums_len]; exact Nat.lt_of_le_of_lt (show _ ≤ 1000 by omega) (by decide)
  have z2 : (nums xs).length < sizeLine := by rw [nums_len]; exact Nat.lt_of_le_of_lt (show _ ≤ 1000 by omega) (by decide)
  have e := loop_eq (g := .nm 4) (dr := [4, 5]) (cs := []) (ds := nums xs) (body := setS 2 (bin2 addR (varS 2) (callF [false, false] d_lframe 2 0 [0, 1] [] (consA (varS 0) (consA (varS 4) nilA)) nilA)))
    (fun i => ⟨[some (.sh (shp n p t)), some (.sh (.list (nums xs))), some (.own 4), some (.own 5), none, none], [.dead, .dead, .dead, .dead, .lv (nums (lev n p t (xs.take i))), .lv (nums xs), .dead, .dead], 2⟩) (fun i d hd => by
      obtain ⟨x, h0, rfl⟩ := nums_get hd
      have el := lframe_ok n p t x h2 hp ht
      have a := lev_len n p t (xs.take i)
      have b : (xs.take i).length ≤ 60 := by rw [List.length_take]; omega
      have c : (xs.take i).length * (n + t + 2) ≤ 60 * 13 := Nat.mul_le_mul b (by omega)
      have fl := frame_len n p t x
      have hz : (nums (lev n p t (xs.take i))).length + (nums (frame n p t x)).length ≤ sizeLine := by
        rw [nums_len, nums_len]
        exact Nat.le_trans (show _ ≤ 1000 by omega) (by decide)
      rw [lev_take n p t xs h0, nums_app]
      generalize nums (lev n p t (xs.take i)) = us at hz ⊢
      generalize nums (frame n p t x) = vs at hz el ⊢
      simp [runF, ent, seqS, setS, ifS, iteS, boolT, truS, notT, andT, orT, bin2, un1, varS, litS, E.callG, g1, g2, consA, nilA, idx_sh, idx_own, idxD_list, idxD_tuple, S.look, S.cellAt, asg0, doneS, S.tr, S.base, Res.bind_ok, Res.bind_bad, retS, retN, lstS, tupS, S.frz, S.frzs, intR, addR, mulR, negR, isNR, notR, isiR, isD, truD, truOk, lenD, intD, absD, max2D, min2D, exprS, skipS, subS, putIx, putAt, augS, iaddR, andV, orV, chainS, methS, appR, S.isL, S.push, S.put, S.loneC, atD, L2.atI, ixN, sz_le, sz_lt, callF, callD_eq, pick, passL, pass1, apart, psOf, ioOf, Pa.r, Pa.cell, Pa.ioc, Pa.lc, retO, fineO, wbO, norm, lentIn, atomD, atomDs, Cell.list, List.range, List.range.loop, List.filterMap_cons, List.filterMap_nil, turnS, setT, setTs, S.clean, S.forget, List.foldl_cons, List.foldl_nil, rngI_def, rngO_some, S.ints, S.int, rng1_eq, rng2_eq, forS, par2S, par3S, waits, isNone, listD, el, hz])
  rw [nums_len, List.take_length] at e
  unfold outF d_right
  have e0 : nums (lev n p t (xs.take 0)) = [] := rfl
  rw [e0] at e
  simp [runF, ent, seqS, setS, ifS, iteS, boolT, truS, notT, andT, orT, bin2, un1, varS, litS, E.callG, g1, g2, consA, nilA, idx_sh, idx_own, idxD_list, idxD_tuple, S.look, S.cellAt, asg0, doneS, S.tr, S.base, Res.bind_ok, Res.bind_bad, retS, retN, lstS, tupS, S.frz, S.frzs, intR, addR, mulR, negR, isNR, notR, isiR, isD, truD, truOk, lenD, intD, absD, max2D, min2D, exprS, skipS, subS, putIx, putAt, augS, iaddR, andV, orV, chainS, methS, appR, S.isL, S.push, S.put, S.loneC, atD, L2.atI, ixN, sz_le, sz_lt, callF, callD_eq, pick, passL, pass1, apart, psOf, ioOf, Pa.r, Pa.cell, Pa.ioc, Pa.lc, retO, fineO, wbO, norm, lentIn, atomD, atomDs, Cell.list, List.range, List.range.loop, List.filterMap_cons, List.filterMap_nil, turnS, setT, setTs, S.clean, S.forget, List.foldl_cons, List.foldl_nil, rngI_def, rngO_some, S.ints, S.int, rng1_eq, rng2_eq, forS, par2S, par3S, waits, isNone, listD, seqI, lkL, e, S.unl, ev, ev0, ef, r1, r2, r3, z1, z2, ↓eq_rp, ↓at_one, cu, atom_nums, sliS, sliR, noO, someO]
end E
/-! V9: k03's law. -/
namespace E
open PySem PySem.Spec PyProof.Rows L2
noncomputable def b_law : SS := (seqS (setS 2 (callF [false, false] d_source 2 0 [0, 1] [] (consA (varS 0) (consA (varS 1) nilA)) nilA))
 (seqS (setS 3 (callF [true] d_shape 1 0 [0] [] (consA (varS 2) nilA) nilA))
 (seqS (ifS (notT (truS (callF [false, false] d_right 2 0 [0, 1] [] (consA (varS 3) (consA (callF [true, false, false] d_text 3 0 [0, 1, 2] [] (consA (varS 2) (consA (varS 3) (consA (callF [true, false] d_draw 2 0 [0, 1] [] (consA (varS 2) (consA (litS (.int 9)) nilA)) nilA) nilA))) nilA) nilA)) nilA)))
 (retS (litS (.bool false)))
 skipS)
 (ifS (boolT (bin2 (eqR false) (varS 1) (litS (.int 0))))
 (seqS (setS 4 (callF [true, false, false] d_text 3 0 [0, 1, 2] [] (consA (varS 2) (consA (varS 3) (consA (bin2 addR (litS (.int 50)) (callF [true, false] d_draw 2 0 [0, 1] [] (consA (varS 2) (consA (litS (.int 11)) nilA)) nilA)) nilA))) nilA))
 (ifS (notT (truS (callF [false, false] d_right 2 0 [0, 1] [] (consA (varS 3) (consA (varS 4) nilA)) nilA)))
 (retS (litS (.bool false)))
 skipS))
 skipS))))
noncomputable def r_law : SS := (retS (andV (bin2 (eqR false) (callF [false, false] d_levels 2 0 [0, 1] [] (consA (tupS (consA (litS (.int 9)) (consA (litS (.str "none")) (consA (litS (.int 1)) nilA)))) (consA (lstS nilA) nilA)) nilA) (lstS nilA)) (bin2 (eqR false) (E.callG (g1 lenD) (consA (callF [false, false] d_levels 2 0 [0, 1] [] (consA (tupS (consA (litS (.int 9)) (consA (litS (.str "odd")) (consA (litS (.int 2)) nilA)))) (consA (bin2 mulR (lstS (consA (litS (.int 511)) nilA)) (litS (.int 60))) nilA)) nilA) nilA)) (litS (.int 780)))))
noncomputable def d_law : FT := runF 5 (seqS (forS (rngI rng1 (consA (E.callG (g2 max2D) (consA (litS (.int 1)) (consA (E.callG (g2 min2D) (consA (litS (.int 8)) (consA (E.callG (g1 lenD) (consA (varS 0) nilA)) nilA))) nilA))) nilA)) (.nm 1) [1, 2, 3, 4] b_law) r_law)
theorem turn_law (ns : List Int) (i : Nat) (hi : i < 8) : turnS (.nm 1) [1, 2, 3, 4] b_law (.int (0 + (i : Nat) * 1)) ⟨[some (.sh (.list (ns.map PyData.int))), none, none, none, none], [.dead, .dead, .dead, .dead, .dead, .dead], 1⟩ =
    some ⟨[some (.sh (.list (ns.map PyData.int))), none, none, none, none], [.dead, .dead, .dead, .dead, .dead, .dead], 1⟩ := by
  obtain ⟨l, q, s0, e0⟩ := source_ok ns i (by omega)
  obtain ⟨n, p, t, l1, k1, h1, h2, hp, h3, h4, s1, e1⟩ := shape_ok s0 (by decide)
  obtain ⟨a, l2, k2, a0, a1, s2, e2⟩ := draw_ok (m := 9) s1 (by decide) (by decide) (by decide)
  obtain ⟨a, rfl⟩ := Int.eq_ofNat_of_zero_le a0
  obtain ⟨xs, l3, k3, b0, b1, s3, e3⟩ := text_ok n p t h2 s2 a (by omega) (by omega)
  have er := right_ok n p t h1 h2 hp (by omega) xs b1 (by omega)
  obtain ⟨c, l4, k4, c0, c1, s4, e4⟩ := draw_ok (m := 11) s3 (by omega) (by decide) (by decide)
  obtain ⟨c, rfl⟩ := Int.eq_ofNat_of_zero_le c0
  obtain ⟨ys, l5, k5, d0, d1, s5, e5⟩ := text_ok n p t h2 s4 (50 + c) (by omega) (by omega)
  have er2 := right_ok n p t h1 h2 hp (by omega) ys d1 (by omega)
  rw [show (((50 + c : Nat) : Int)) = 50 + (c : Int) from rfl] at e5
  generalize ns.map PyData.int = ds at *
  unfold b_law
  by_cases h0 : i = 0
  · have h0' : (i = 0) = True := eq_true h0
    simp [runF, ent, seqS, setS, ifS, iteS, boolT, truS, notT, andT, orT, bin2, un1, varS, litS, E.callG, g1, g2, consA, nilA, idx_sh, idx_own, idxD_list, idxD_tuple, S.look, S.cellAt, asg0, doneS, S.tr, S.base, Res.bind_ok, Res.bind_bad, retS, retN, lstS, tupS, S.frz, S.frzs, intR, addR, mulR, negR, isNR, notR, isiR, isD, truD, truOk, lenD, intD, absD, max2D, min2D, exprS, skipS, subS, putIx, putAt, augS, iaddR, andV, orV, chainS, methS, appR, S.isL, S.push, S.put, S.loneC, atD, L2.atI, ixN, sz_le, sz_lt, callF, callD_eq, pick, passL, pass1, apart, psOf, ioOf, Pa.r, Pa.cell, Pa.ioc, Pa.lc, retO, fineO, wbO, norm, lentIn, atomD, atomDs, Cell.list, List.range, List.range.loop, List.filterMap_cons, List.filterMap_nil, turnS, setT, setTs, S.clean, S.forget, List.foldl_cons, List.foldl_nil, rngI_def, rngO_some, S.ints, S.int, rng1_eq, rng2_eq, forS, par2S, par3S, waits, isNone, listD, e0, e1, e2, e3, er, e4, e5, er2, ↓eq_int, h0']
  · simp [runF, ent, seqS, setS, ifS, iteS, boolT, truS, notT, andT, orT, bin2, un1, varS, litS, E.callG, g1, g2, consA, nilA, idx_sh, idx_own, idxD_list, idxD_tuple, S.look, S.cellAt, asg0, doneS, S.tr, S.base, Res.bind_ok, Res.bind_bad, retS, retN, lstS, tupS, S.frz, S.frzs, intR, addR, mulR, negR, isNR, notR, isiR, isD, truD, truOk, lenD, intD, absD, max2D, min2D, exprS, skipS, subS, putIx, putAt, augS, iaddR, andV, orV, chainS, methS, appR, S.isL, S.push, S.put, S.loneC, atD, L2.atI, ixN, sz_le, sz_lt, callF, callD_eq, pick, passL, pass1, apart, psOf, ioOf, Pa.r, Pa.cell, Pa.ioc, Pa.lc, retO, fineO, wbO, norm, lentIn, atomD, atomDs, Cell.list, List.range, List.range.loop, List.filterMap_cons, List.filterMap_nil, turnS, setT, setTs, S.clean, S.forget, List.foldl_cons, List.foldl_nil, rngI_def, rngO_some, S.ints, S.int, rng1_eq, rng2_eq, forS, par2S, par3S, waits, isNone, listD, e0, e1, e2, e3, er, e4, ↓eq_int, h0]
theorem end_law (ds : List D) : r_law ⟨[some (.sh (.list ds)), none, none, none, none], [.dead, .dead, .dead, .dead, .dead, .dead], 1⟩ = .ok (.rt (.sh (.bool true))) ⟨[], [], 0⟩ ∨ ∃ s, r_law ⟨[some (.sh (.list ds)), none, none, none, none], [.dead, .dead, .dead, .dead, .dead, .dead], 1⟩ = .ok (.rt (.sh (.bool true))) s := by
  have e1 : outF d_levels [.sh (.tuple [.int 9, .str "none", .int 1]), .sh (.list [])] [.dead, .dead] = some (.new [], [.dead, .dead]) := levels_ok 9 0 1 (by decide) (by decide) (by decide) (by decide) [] (fun x h => by simp at h) (by decide)
  have e2 := levels_ok 9 2 2 (by decide) (by decide) (by decide) (by decide) (List.replicate 60 511) (fun x h => by rw [(List.mem_replicate.mp h).2]; decide) (by decide)
  have e2 : outF d_levels [.sh (.tuple [.int 9, .str "odd", .int 2]), .sh (.list (nums (List.replicate 60 511)))] [.dead, .dead] = some (.new (nums (lev 9 2 2 (List.replicate 60 511))), [.dead, .dead]) := e2
  have hl : (nums (lev 9 2 2 (List.replicate 60 511))).length = 780 := by rw [nums_len]; decide +kernel
  have hi : in62 60 := in62_nat (n := 60) (by decide)
  have hf : (List.replicate 60 [PyData.int 511]).flatten = nums (List.replicate 60 511) := rfl
  have hq : ∀ s, eqR false (.sh (.list [])) (.sh (.list [])) s = .ok (.sh (.bool true)) s := fun s => rfl
  have q1 : eqOk (.list []) (.list []) = true := rfl
  have q2 : PyData.eqv (.list []) (.list []) = true := rfl
  have q3 : eqOk (.int 780) (.int 780) = true := rfl
  have q4 : PyData.eqv (.int 780) (.int 780) = true := by simp [PyData.eqv]
  right
  unfold r_law
  have hw : atomDs (nums (lev 9 2 2 (List.replicate 60 511))) = true := atom_nums _
  generalize nums (lev 9 2 2 (List.replicate 60 511)) = us at *
  generalize nums (List.replicate 60 511) = vs at *
  have hf2 : List.replicate 60 (PyData.int 511) = vs := by rw [← hf]; simp [-List.reduceReplicate]
  have hv : atomDs vs = true := by rw [← hf]; decide +kernel
  simp [runF, ent, seqS, setS, ifS, iteS, boolT, truS, notT, andT, orT, bin2, un1, varS, litS, E.callG, g1, g2, consA, nilA, idx_sh, idx_own, idxD_list, idxD_tuple, S.look, S.cellAt, asg0, doneS, S.tr, S.base, Res.bind_ok, Res.bind_bad, retS, retN, lstS, tupS, S.frz, S.frzs, intR, addR, mulR, negR, isNR, notR, isiR, isD, truD, truOk, lenD, intD, absD, max2D, min2D, exprS, skipS, subS, putIx, putAt, augS, iaddR, andV, orV, chainS, methS, appR, S.isL, S.push, S.put, S.loneC, atD, L2.atI, ixN, sz_le, sz_lt, callF, callD_eq, pick, passL, pass1, apart, psOf, ioOf, Pa.r, Pa.cell, Pa.ioc, Pa.lc, retO, fineO, wbO, norm, lentIn, atomD, atomDs, Cell.list, List.range, List.range.loop, List.filterMap_cons, List.filterMap_nil, turnS, setT, setTs, S.clean, S.forget, List.foldl_cons, List.foldl_nil, rngI_def, rngO_some, S.ints, S.int, rng1_eq, rng2_eq, forS, par2S, par3S, waits, isNone, listD, -List.reduceReplicate, eqR, q1, q2, q3, q4, ↓eq_int, e1, e2, hl, hi, hf, hf2, hw, hv]
theorem keeps_law : Keeps d_law 63 := fun ns hn => by
  have e := loop_eq (g := .nm 1) (dr := [1, 2, 3, 4]) (body := b_law) (cs := []) (ds := rngD 0 1 (max 1 (min 8 ns.length))) (fun _ => ⟨[some (.sh (.list (ns.map PyData.int))), none, none, none, none], [.dead, .dead, .dead, .dead, .dead, .dead], 1⟩) (fun i d hi => by
    obtain ⟨hi, rfl⟩ := rng_at' hi
    exact turn_law ns i (by omega))
  obtain ⟨s, hs⟩ : ∃ s, r_law ⟨[some (.sh (.list (ns.map PyData.int))), none, none, none, none], [.dead, .dead, .dead, .dead, .dead, .dead], 1⟩ = .ok (.rt (.sh (.bool true))) s := (end_law _).elim (fun h => ⟨_, h⟩) id
  refine ⟨s, ?_⟩
  have hr : rngI rng1 (consA (E.callG (g2 max2D) (consA (litS (.int 1)) (consA (E.callG (g2 min2D) (consA (litS (.int 8)) (consA (E.callG (g1 lenD) (consA (varS 0) nilA)) nilA))) nilA))) nilA) ⟨[some (.sh (.list (ns.map PyData.int))), none, none, none, none], [.dead, .dead, .dead, .dead, .dead, .dead], 1⟩ = .ok (rngD 0 1 (max 1 (min 8 ns.length)), []) ⟨[some (.sh (.list (ns.map PyData.int))), none, none, none, none], [.dead, .dead, .dead, .dead, .dead, .dead], 1⟩ := by
    have h3 : (if (if (ns.length : Int) < 8 then (ns.length : Int) else 8) > 1 then (if (ns.length : Int) < 8 then (ns.length : Int) else 8) else 1) = ((max 1 (min 8 ns.length) : Nat) : Int) := by
      split <;> split <;> omega
    have h4 : small62 ((max 1 (min 8 ns.length) : Nat) : Int) := small_nat (by omega)
    rw [rngI_def]
    have h5 : (consA (E.callG (g2 max2D) (consA (litS (.int 1)) (consA (E.callG (g2 min2D) (consA (litS (.int 8)) (consA (E.callG (g1 lenD) (consA (varS 0) nilA)) nilA))) nilA))) nilA) ⟨[some (.sh (.list (ns.map PyData.int))), none, none, none, none], [.dead, .dead, .dead, .dead, .dead, .dead], 1⟩ = .ok [.sh (.int ((max 1 (min 8 ns.length) : Nat) : Int))] ⟨[some (.sh (.list (ns.map PyData.int))), none, none, none, none], [.dead, .dead, .dead, .dead, .dead, .dead], 1⟩ := by
      rw [← h3]
      simp [runF, ent, seqS, setS, ifS, iteS, boolT, truS, notT, andT, orT, bin2, un1, varS, litS, E.callG, g1, g2, consA, nilA, idx_sh, idx_own, idxD_list, idxD_tuple, S.look, S.cellAt, asg0, doneS, S.tr, S.base, Res.bind_ok, Res.bind_bad, retS, retN, lstS, tupS, S.frz, S.frzs, intR, addR, mulR, negR, isNR, notR, isiR, isD, truD, truOk, lenD, intD, absD, max2D, min2D, exprS, skipS, subS, putIx, putAt, augS, iaddR, andV, orV, chainS, methS, appR, S.isL, S.push, S.put, S.loneC, atD, L2.atI, ixN, sz_le, sz_lt, callF, callD_eq, pick, passL, pass1, apart, psOf, ioOf, Pa.r, Pa.cell, Pa.ioc, Pa.lc, retO, fineO, wbO, norm, lentIn, atomD, atomDs, Cell.list, List.range, List.range.loop, List.filterMap_cons, List.filterMap_nil, turnS, setT, setTs, S.clean, S.forget, List.foldl_cons, List.foldl_nil, rngI_def, rngO_some, S.ints, S.int, rng1_eq, rng2_eq, forS, par2S, par3S, waits, isNone, listD]
    rw [h5, Res.bind_ok]
    exact (rng1_eq h4).trans (by rw [Int.toNat_natCast])
  have h6 : forS (rngI rng1 (consA (E.callG (g2 max2D) (consA (litS (.int 1)) (consA (E.callG (g2 min2D) (consA (litS (.int 8)) (consA (E.callG (g1 lenD) (consA (varS 0) nilA)) nilA))) nilA))) nilA)) (.nm 1) [1, 2, 3, 4] b_law ⟨[some (.sh (.list (ns.map PyData.int))), none, none, none, none], [.dead, .dead, .dead, .dead, .dead, .dead], 1⟩ = .ok .nx ⟨[some (.sh (.list (ns.map PyData.int))), none, none, none, none], [.dead, .dead, .dead, .dead, .dead, .dead], 1⟩ := by
    unfold forS
    rw [hr, Res.bind_ok]
    refine Eq.trans ?_ (e.trans ?_)
    · simp [S.clean, S.forget, S.tr, S.cellAt]
    · simp [doneS, S.unl, S.tr]
  unfold d_law runF
  show (match seqS _ r_law ⟨[some (.sh (.list (ns.map PyData.int))), none, none, none, none], [.dead, .dead, .dead, .dead, .dead, .dead], 1⟩ with | .ok (.rt r) s => (Res.ok r s : Res R) | .ok .nx s => Res.ok (R.sh .none) s | .exc x s => Res.exc x s | _ => Res.bad) = _
  unfold seqS
  rw [h6]
  dsimp only
  rw [hs]
end E
namespace P
open PySem PySem.Spec PyProof.Rows L2 E
def top (i : Nat) : Stmt := PySem.Challenge.pw_startbits_k03_levels_of_texts.main.body.getD i (.Pass ⟨0, 0, 0, 0⟩)
abbrev s__law_source : Stmt := top 20
abbrev s__law_draw : Stmt := top 21
abbrev s__law_shape : Stmt := top 22
abbrev s_is_integer : Stmt := top 8
abbrev s_shape_fault : Stmt := top 11
abbrev s_require_shape : Stmt := top 12
abbrev s_fits_shape : Stmt := top 10
abbrev s_require_text : Stmt := top 13
abbrev s_parity_level : Stmt := top 9
abbrev s_frame_levels : Stmt := top 16
abbrev s_levels_of : Stmt := top 18
abbrev s__law_frame : Stmt := top 23
abbrev s_require_number : Stmt := top 14
abbrev s_frame_of : Stmt := top 17
abbrev s__law_right : Stmt := top 25
abbrev s__law_text : Stmt := top 24
abbrev s_law : Stmt := top 26
noncomputable def m__law_source : FT := runF 4 (seqS (setS 2 (iteS (boolT (bin2 ltR (varS 1) (callG (g1 lenD) (consA (varS 0) nilA)))) (bin2 idxR (varS 0) (varS 1)) (litS (.int 0))))
 (seqS (setS 3 (iteS (boolT (bin2 geR (callG (g1 absD) (consA (varS 2) nilA)) (bin2 powR (litS (.int 10)) (litS (.int 18))))) (bin2 subR (callG (g1 absD) (consA (varS 2) nilA)) (bin2 powR (litS (.int 10)) (litS (.int 18)))) (litS (.int 0))))
 (retS (lstS (consA (varS 3) (consA (bin2 addR (bin2 modR (callG (g1 intD) (consA (varS 2) nilA)) (litS (.int 2305843009213693951))) (bin2 mulR (litS (.int 1000003)) (varS 1))) (consA (litS (.int 0)) nilA)))))))
noncomputable def m__law_draw : FT := runF 4 (seqS (ifS (boolT (bin2 gtR (bin2 idxR (varS 0) (litS (.int 0))) (litS (.int 0))))
 (seqS (setS 2 (bin2 modR (callG (g1 intD) (consA (bin2 idxR (varS 0) (litS (.int 0))) nilA)) (varS 1)))
 (seqS (subS (varS 0) (litS (.int 0)) (bin2 fdivR (bin2 idxR (varS 0) (litS (.int 0))) (varS 1)))
 (retS (varS 2))))
 skipS)
 (seqS (subS (varS 0) (litS (.int 2)) (bin2 addR (bin2 idxR (varS 0) (litS (.int 2))) (litS (.int 1))))
 (seqS (setS 3 (bin2 addR (bin2 idxR (varS 0) (litS (.int 1))) (bin2 mulR (litS (.int 2750159)) (bin2 idxR (varS 0) (litS (.int 2))))))
 (seqS (setS 3 (bin2 addR (bin2 modR (callG (g1 intD) (consA (bin2 powR (varS 3) (litS (.int 3))) nilA)) (bin2 addR (bin2 powR (litS (.int 10)) (litS (.int 38))) (litS (.int 133)))) (bin2 mulR (litS (.int 7368787)) (bin2 idxR (varS 0) (litS (.int 2))))))
 (seqS (setS 3 (bin2 modR (callG (g1 intD) (consA (bin2 powR (varS 3) (litS (.int 3))) nilA)) (bin2 addR (bin2 powR (litS (.int 10)) (litS (.int 41))) (litS (.int 217)))))
 (retS (bin2 modR (callG (g1 intD) (consA (bin2 fdivR (varS 3) (litS (.int 1000003))) nilA)) (varS 1))))))))
noncomputable def m__law_shape : FT := runF 2 (seqS (setS 1 (bin2 idxR (lstS (consA (litS (.str "none")) (consA (litS (.str "even")) (consA (litS (.str "odd")) nilA)))) (callF [true, false] m__law_draw 2 0 [0, 1] [] (consA (varS 0) (consA (litS (.int 3)) nilA)) nilA)))
 (retS (tupS (consA (bin2 addR (litS (.int 1)) (callF [true, false] m__law_draw 2 0 [0, 1] [] (consA (varS 0) (consA (litS (.int 9)) nilA)) nilA)) (consA (varS 1) (consA (bin2 addR (litS (.int 1)) (callF [true, false] m__law_draw 2 0 [0, 1] [] (consA (varS 0) (consA (litS (.int 2)) nilA)) nilA)) nilA))))))
noncomputable def m_is_integer : FT := runF 1 (retS (andV (un1 (isiR .int) (varS 0)) (un1 notR (un1 (isiR .bool) (varS 0)))))
noncomputable def m_shape_fault : FT := runF 1 (seqS (ifS (orT (notT (truS (un1 (isiR .tuple) (varS 0)))) (boolT (bin2 (eqR true) (callG (g1 lenD) (consA (varS 0) nilA)) (litS (.int 3)))))
 (retS (tupS (consA (litS .none) nilA)))
 skipS)
 (seqS (ifS (orT (notT (truS (callF [false] m_is_integer 1 0 [0] [] (consA (bin2 idxR (varS 0) (litS (.int 0))) nilA) nilA))) (notT (boolT (chainS leR leR (litS (.int 1)) (bin2 idxR (varS 0) (litS (.int 0))) (litS (.int 9))))))
 (retS (tupS (consA (litS (.int 0)) nilA)))
 skipS)
 (seqS (ifS (orT (notT (truS (un1 (isiR .str) (bin2 idxR (varS 0) (litS (.int 1)))))) (boolT (bin2 (inR true) (bin2 idxR (varS 0) (litS (.int 1))) (litS (.tuple [.str "none", .str "even", .str "odd"])))))
 (retS (tupS (consA (litS (.int 1)) nilA)))
 skipS)
 (seqS (ifS (orT (notT (truS (callF [false] m_is_integer 1 0 [0] [] (consA (bin2 idxR (varS 0) (litS (.int 2))) nilA) nilA))) (notT (boolT (chainS leR leR (litS (.int 1)) (bin2 idxR (varS 0) (litS (.int 2))) (litS (.int 2))))))
 (retS (tupS (consA (litS (.int 2)) nilA)))
 skipS)
 (retS (tupS nilA))))))
noncomputable def m_require_shape : FT := runF 2 (seqS (setS 1 (callF [false] m_shape_fault 1 0 [0] [] (consA (varS 0) nilA) nilA))
 (ifS (boolT (bin2 (eqR true) (varS 1) (tupS nilA)))
 badS
 skipS))
noncomputable def m_fits_shape : FT := runF 2 (retS (andV (callF [false] m_is_integer 1 0 [0] [] (consA (varS 1) nilA) nilA) (chainS leR ltR (litS (.int 0)) (varS 1) (bin2 shlR (litS (.int 1)) (bin2 idxR (varS 0) (litS (.int 0)))))))
noncomputable def m_require_text : FT := runF 6 (seqS (ifS (orT (notT (truS (un1 (isiR .list) (varS 1)))) (notT (boolT (chainS leR leR (varS 2) (callG (g1 lenD) (consA (varS 1) nilA)) (varS 3)))))
 badS
 skipS)
 (forS (enumI (consA (varS 1) nilA)) (.tp [(.nm 4), (.nm 5)]) [1, 2, 3, 4, 5]
 (ifS (notT (truS (callF [false, false] m_fits_shape 2 0 [0, 1] [] (consA (varS 0) (consA (varS 5) nilA)) nilA)))
 badS
 skipS)))
noncomputable def m_parity_level : FT := runF 4 (seqS (ifS (boolT (bin2 (eqR false) (bin2 idxR (varS 0) (litS (.int 1))) (litS (.str "none"))))
 (retS (litS .none))
 skipS)
 (seqS (setS 2 (callG (g1 sumD) (consA (compS (rngI rng1 (consA (bin2 idxR (varS 0) (litS (.int 0))) nilA)) (.nm 3) [3] yesT (bin2 andR (bin2 shrR (varS 1) (varS 3)) (litS (.int 1)))) nilA)))
 (retS (bin2 modR (bin2 addR (varS 2) (callG (g1 intD) (consA (bin2 (eqR false) (bin2 idxR (varS 0) (litS (.int 1))) (litS (.str "odd"))) nilA))) (litS (.int 2))))))
noncomputable def m_frame_levels : FT := runF 4 (seqS (setS 2 (bin2 addR (lstS (consA (litS (.int 0)) nilA)) (compS (rngI rng1 (consA (bin2 idxR (varS 0) (litS (.int 0))) nilA)) (.nm 3) [3] yesT (bin2 andR (bin2 shrR (varS 1) (varS 3)) (litS (.int 1))))))
 (seqS (ifS (boolT (bin2 (eqR true) (bin2 idxR (varS 0) (litS (.int 1))) (litS (.str "none"))))
 (exprS (methS appR (varS 2) (consA (callF [false, false] m_parity_level 2 0 [0, 1] [] (consA (varS 0) (consA (varS 1) nilA)) nilA) nilA)))
 skipS)
 (retS (bin2 addR (varS 2) (bin2 mulR (lstS (consA (litS (.int 1)) nilA)) (bin2 idxR (varS 0) (litS (.int 2))))))))
noncomputable def m_levels_of : FT := runF 4 (seqS (exprS (callF [false] m_require_shape 1 0 [0] [] (consA (varS 0) nilA) nilA))
 (seqS (exprS (callF [false, false, false, false] m_require_text 2 0 [0, 1, 2, 3] [.int 0, .int 60] (consA (varS 0) (consA (varS 1) nilA)) nilA))
 (retS (comp2S (seqI (varS 1)) (.nm 2) [2, 3] yesT (seqI (callF [false, false] m_frame_levels 2 0 [0, 1] [] (consA (varS 0) (consA (varS 2) nilA)) nilA)) (.nm 3) [3] yesT (varS 3)))))
noncomputable def m__law_frame : FT := runF 5 (seqS (par2S 2 3 (consA (lstS nilA) (consA (varS 1) nilA)))
 (seqS (forS (rngI rng1 (consA (bin2 idxR (varS 0) (litS (.int 0))) nilA)) (.nm 4) [1, 4]
 (seqS (exprS (methS appR (varS 2) (consA (bin2 modR (callG (g1 intD) (consA (varS 3) nilA)) (litS (.int 2))) nilA)))
 (setS 3 (bin2 fdivR (varS 3) (litS (.int 2))))))
 (seqS (ifS (boolT (bin2 (eqR false) (bin2 idxR (varS 0) (litS (.int 1))) (litS (.str "even"))))
 (exprS (methS appR (varS 2) (consA (bin2 modR (callG (g1 intD) (consA (callG (g1 sumD) (consA (varS 2) nilA)) nilA)) (litS (.int 2))) nilA)))
 (ifS (boolT (bin2 (eqR false) (bin2 idxR (varS 0) (litS (.int 1))) (litS (.str "odd"))))
 (exprS (methS appR (varS 2) (consA (bin2 subR (litS (.int 1)) (bin2 modR (callG (g1 intD) (consA (callG (g1 sumD) (consA (varS 2) nilA)) nilA)) (litS (.int 2)))) nilA)))
 skipS))
 (retS (bin2 addR (bin2 addR (lstS (consA (litS (.int 0)) nilA)) (varS 2)) (bin2 mulR (lstS (consA (litS (.int 1)) nilA)) (bin2 idxR (varS 0) (litS (.int 2)))))))))
noncomputable def m_require_number : FT := runF 2 (ifS (notT (truS (callF [false, false] m_fits_shape 2 0 [0, 1] [] (consA (varS 0) (consA (varS 1) nilA)) nilA)))
 badS
 skipS)
noncomputable def m_frame_of : FT := runF 2 (seqS (exprS (callF [false] m_require_shape 1 0 [0] [] (consA (varS 0) nilA) nilA))
 (seqS (exprS (callF [false, false] m_require_number 2 0 [0, 1] [] (consA (varS 0) (consA (varS 1) nilA)) nilA))
 (retS (callF [false, false] m_frame_levels 2 0 [0, 1] [] (consA (varS 0) (consA (varS 1) nilA)) nilA))))
noncomputable def m__law_right : FT := runF 6 (seqS (par2S 2 3 (consA (lstS nilA) (consA (callG (g1 listD) (consA (varS 1) nilA)) nilA)))
 (seqS (forS (seqI (varS 1)) (.nm 4) [4, 5]
 (setS 2 (bin2 addR (varS 2) (callF [false, false] m__law_frame 2 0 [0, 1] [] (consA (varS 0) (consA (varS 4) nilA)) nilA))))
 (seqS (setS 5 (callF [false, false] m_levels_of 2 0 [0, 1] [] (consA (varS 0) (consA (varS 3) nilA)) nilA))
 (seqS (ifS (orT (boolT (bin2 (eqR true) (callG (g1 reprD) (consA (varS 5) nilA)) (callG (g1 reprD) (consA (varS 2) nilA)))) (boolT (bin2 (eqR true) (callG (g1 reprD) (consA (varS 3) nilA)) (callG (g1 reprD) (consA (varS 1) nilA)))))
 (retS (litS (.bool false)))
 skipS)
 (seqS (exprS (methS appR (varS 5) (consA (litS (.int 1)) nilA)))
 (seqS (exprS (methS appR (varS 3) (consA (litS (.int 0)) nilA)))
 (seqS (ifS (boolT (bin2 (eqR true) (callG (g1 reprD) (consA (callF [false, false] m_levels_of 2 0 [0, 1] [] (consA (varS 0) (consA (varS 1) nilA)) nilA) nilA)) (callG (g1 reprD) (consA (varS 2) nilA))))
 (retS (litS (.bool false)))
 skipS)
 (seqS (setS 3 (sliS (varS 3) noO (someO (litS (.int 1)))))
 (retS (bin2 (eqR false) (callG (g1 reprD) (consA (callF [false, false] m_levels_of 0 2 [1, 0] [] nilA (consA (varS 3) (consA (varS 0) nilA))) nilA)) (callG (g1 reprD) (consA (callF [false, false] m_frame_of 2 0 [0, 1] [] (consA (varS 0) (consA (bin2 idxR (varS 3) (litS (.int 0))) nilA)) nilA) nilA))))))))))))
noncomputable def m__law_text : FT := runF 6 (seqS (setS 3 (litS (.int 1)))
 (seqS (forS (rngI rng1 (consA (bin2 idxR (varS 1) (litS (.int 0))) nilA)) (.nm 4) [1, 4, 5]
 (setS 3 (bin2 mulR (litS (.int 2)) (varS 3))))
 (seqS (setS 5 (lstS nilA))
 (seqS (forS (rngI rng1 (consA (varS 2) nilA)) (.nm 4) [1, 2, 4]
 (exprS (methS appR (varS 5) (consA (bin2 idxR (lstS (consA (litS (.int 0)) (consA (bin2 subR (varS 3) (litS (.int 1))) (consA (callF [true, false] m__law_draw 2 0 [0, 1] [] (consA (varS 0) (consA (varS 3) nilA)) nilA) (consA (callF [true, false] m__law_draw 2 0 [0, 1] [] (consA (varS 0) (consA (varS 3) nilA)) nilA) nilA))))) (callF [true, false] m__law_draw 2 0 [0, 1] [] (consA (varS 0) (consA (litS (.int 4)) nilA)) nilA)) nilA))))
 (retS (varS 5))))))
noncomputable def m_law : FT := runF 5 (seqS (forS (rngI rng1 (consA (callG (g2 max2D) (consA (litS (.int 1)) (consA (callG (g2 min2D) (consA (litS (.int 8)) (consA (callG (g1 lenD) (consA (varS 0) nilA)) nilA))) nilA))) nilA)) (.nm 1) [1, 2, 3, 4]
 (seqS (setS 2 (callF [false, false] m__law_source 2 0 [0, 1] [] (consA (varS 0) (consA (varS 1) nilA)) nilA))
 (seqS (setS 3 (callF [true] m__law_shape 1 0 [0] [] (consA (varS 2) nilA) nilA))
 (seqS (ifS (notT (truS (callF [false, false] m__law_right 2 0 [0, 1] [] (consA (varS 3) (consA (callF [true, false, false] m__law_text 3 0 [0, 1, 2] [] (consA (varS 2) (consA (varS 3) (consA (callF [true, false] m__law_draw 2 0 [0, 1] [] (consA (varS 2) (consA (litS (.int 9)) nilA)) nilA) nilA))) nilA) nilA)) nilA)))
 (retS (litS (.bool false)))
 skipS)
 (ifS (boolT (bin2 (eqR false) (varS 1) (litS (.int 0))))
 (seqS (setS 4 (callF [true, false, false] m__law_text 3 0 [0, 1, 2] [] (consA (varS 2) (consA (varS 3) (consA (bin2 addR (litS (.int 50)) (callF [true, false] m__law_draw 2 0 [0, 1] [] (consA (varS 2) (consA (litS (.int 11)) nilA)) nilA)) nilA))) nilA))
 (ifS (notT (truS (callF [false, false] m__law_right 2 0 [0, 1] [] (consA (varS 3) (consA (varS 4) nilA)) nilA)))
 (retS (litS (.bool false)))
 skipS))
 skipS)))))
 (retS (andV (bin2 (eqR false) (callF [false, false] m_levels_of 2 0 [0, 1] [] (consA (tupS (consA (litS (.int 9)) (consA (litS (.str "none")) (consA (litS (.int 1)) nilA)))) (consA (lstS nilA) nilA)) nilA) (lstS nilA)) (bin2 (eqR false) (callG (g1 lenD) (consA (callF [false, false] m_levels_of 2 0 [0, 1] [] (consA (tupS (consA (litS (.int 9)) (consA (litS (.str "odd")) (consA (litS (.int 2)) nilA)))) (consA (bin2 mulR (lstS (consA (litS (.int 511)) nilA)) (litS (.int 60))) nilA)) nilA) nilA)) (litS (.int 780))))))
structure Bi (mg : Str → Option Value) : Prop where
  b : Free mg ["abs", "bool", "enumerate", "int", "isinstance", "len", "list", "max", "min", "range", "repr", "str", "sum", "tuple"]
structure Co (K : PySem.W.Frag) (mg : Str → Option Value) : Prop where
  PARITIES : Con K mg "PARITIES" (.tuple [.str "none", .str "even", .str "odd"])
section
variable {P : Program} {w : World} {K : PySem.W.Frag} {mg : Str → Option Value} {base : Heap}
theorem w__law_source (cB : Free mg ["abs", "bool", "enumerate", "int", "isinstance", "len", "list", "max", "min", "range", "repr", "str", "sum", "tuple"]) (cC : Co K mg)  (D : Def K mg "_law_source" s__law_source []) : Own P w K mg base "_law_source" s__law_source [] 1 ["_law_script", "_law_at"] 4 m__law_source := by
  refine own_of (N := ["_law_script", "_law_at", "_law_cell", "_law_left"]) D (by decide +kernel) rfl fun f cdv A outer z H hr gd => ?_
  have hN : (["_law_script", "_law_at", "_law_cell", "_law_left"] : List Str).Nodup := by decide +kernel
  have hu := hr.units
  have hu1 := units65 hr
  exact (sb_cons (ss_set hN rfl (by first | exact .inl rfl | exact .inr rfl) (se_ite (st_cmp o_lt v (se_callB c_len rfl (cB "len" (by decide)) (by decide +kernel) (sa_cons v sa_nil)) rfl) (se_ix v v (fun _ _ => rfl)) se_int))
 (sb_cons (ss_set hN rfl (by first | exact .inl rfl | exact .inr rfl) (se_ite (st_cmp o_ge (se_callB c_abs rfl (cB "abs" (by decide)) (by decide +kernel) (sa_cons v sa_nil)) (se_bin o_pow se_int se_int) rfl) (se_bin o_sub (se_callB c_abs rfl (cB "abs" (by decide)) (by decide +kernel) (sa_cons v sa_nil)) (se_bin o_pow se_int se_int)) se_int))
 (sb_one (ss_ret (se_lst (sa_cons v (sa_cons (se_bin oP_add (se_bin o_mod (se_callTy c_int rfl (cB "int" (by decide)) (by decide +kernel) (sa_cons v sa_nil)) se_int) (se_bin oP_mul se_int v)) (sa_cons se_int sa_nil))))))))
theorem w__law_draw (cB : Free mg ["abs", "bool", "enumerate", "int", "isinstance", "len", "list", "max", "min", "range", "repr", "str", "sum", "tuple"]) (cC : Co K mg)  (D : Def K mg "_law_draw" s__law_draw []) : Own P w K mg base "_law_draw" s__law_draw [] 1 ["_law_source_here", "_law_many"] 4 m__law_draw := by
  refine own_of (N := ["_law_source_here", "_law_many", "_law_drawn", "_law_mixed"]) D (by decide +kernel) rfl fun f cdv A outer z H hr gd => ?_
  have hN : (["_law_source_here", "_law_many", "_law_drawn", "_law_mixed"] : List Str).Nodup := by decide +kernel
  have hu := hr.units
  have hu1 := units65 hr
  exact (sb_cons (ss_if (st_cmp o_gt (se_ix v se_int (fun _ _ => rfl)) se_int rfl)
 (sb_cons (ss_set hN rfl (by first | exact .inl rfl | exact .inr rfl) (se_bin o_mod (se_callTy c_int rfl (cB "int" (by decide)) (by decide +kernel) (sa_cons (se_ix v se_int (fun _ _ => rfl)) sa_nil)) v))
 (sb_cons (ss_sub v se_int (se_bin o_fdiv (se_ix v se_int (fun _ _ => rfl)) v))
 (sb_one (ss_ret v))))
 sb_nil)
 (sb_cons (ss_sub v se_int (se_bin oP_add (se_ix v se_int (fun _ _ => rfl)) se_int))
 (sb_cons (ss_set hN rfl (by first | exact .inl rfl | exact .inr rfl) (se_bin oP_add (se_ix v se_int (fun _ _ => rfl)) (se_bin oP_mul se_int (se_ix v se_int (fun _ _ => rfl)))))
 (sb_cons (ss_set hN rfl (by first | exact .inl rfl | exact .inr rfl) (se_bin oP_add (se_bin o_mod (se_callTy c_int rfl (cB "int" (by decide)) (by decide +kernel) (sa_cons (se_bin o_pow v se_int) sa_nil)) (se_bin oP_add (se_bin o_pow se_int se_int) se_int)) (se_bin oP_mul se_int (se_ix v se_int (fun _ _ => rfl)))))
 (sb_cons (ss_set hN rfl (by first | exact .inl rfl | exact .inr rfl) (se_bin o_mod (se_callTy c_int rfl (cB "int" (by decide)) (by decide +kernel) (sa_cons (se_bin o_pow v se_int) sa_nil)) (se_bin oP_add (se_bin o_pow se_int se_int) se_int)))
 (sb_one (ss_ret (se_bin o_mod (se_callTy c_int rfl (cB "int" (by decide)) (by decide +kernel) (sa_cons (se_bin o_fdiv v se_int) sa_nil)) v))))))))
theorem w__law_shape (cB : Free mg ["abs", "bool", "enumerate", "int", "isinstance", "len", "list", "max", "min", "range", "repr", "str", "sum", "tuple"]) (cC : Co K mg) (o__law_draw : Own P w K mg base "_law_draw" s__law_draw [] 1 ["_law_source_here", "_law_many"] 4 m__law_draw) (D : Def K mg "_law_shape" s__law_shape []) : Own P w K mg base "_law_shape" s__law_shape [] 2 ["_law_source_here"] 2 m__law_shape := by
  refine own_of (N := ["_law_source_here", "_law_parity"]) D (by decide +kernel) rfl fun f cdv A outer z H hr gd => ?_
  have hN : (["_law_source_here", "_law_parity"] : List Str).Nodup := by decide +kernel
  have hu := hr.units
  have hu1 := units65 hr
  exact (sb_cons (ss_set hN rfl (by first | exact .inl rfl | exact .inr rfl) (se_ix (se_lst (sa_cons se_str (sa_cons se_str (sa_cons se_str sa_nil)))) (se_own (md := [true, false]) (ix := [0, 1]) (ds := []) o__law_draw (.inl ⟨rfl, fun _ _ _ _ _ _ us ws h1 h2 => match us, ws, h1, h2 with | [_, _], [], _, _ => rfl⟩) hr gd (sa_cons v (sa_cons se_int sa_nil))) (fun _ _ => rfl)))
 (sb_one (ss_ret (se_tup (sa_cons (se_bin oP_add se_int (se_own (md := [true, false]) (ix := [0, 1]) (ds := []) o__law_draw (.inl ⟨rfl, fun _ _ _ _ _ _ us ws h1 h2 => match us, ws, h1, h2 with | [_, _], [], _, _ => rfl⟩) hr gd (sa_cons v (sa_cons se_int sa_nil)))) (sa_cons v (sa_cons (se_bin oP_add se_int (se_own (md := [true, false]) (ix := [0, 1]) (ds := []) o__law_draw (.inl ⟨rfl, fun _ _ _ _ _ _ us ws h1 h2 => match us, ws, h1, h2 with | [_, _], [], _, _ => rfl⟩) hr gd (sa_cons v (sa_cons se_int sa_nil)))) sa_nil)))))))
theorem w_is_integer (cB : Free mg ["abs", "bool", "enumerate", "int", "isinstance", "len", "list", "max", "min", "range", "repr", "str", "sum", "tuple"]) (cC : Co K mg)  (D : Def K mg "is_integer" s_is_integer []) : Own P w K mg base "is_integer" s_is_integer [] 1 ["value"] 1 m_is_integer := by
  refine own_of (N := ["value"]) D (by decide +kernel) rfl fun f cdv A outer z H hr gd => ?_
  have hN : (["value"] : List Str).Nodup := by decide +kernel
  have hu := hr.units
  have hu1 := units65 hr
  exact (sb_one (ss_ret (se_and (se_isi (T := .int) rfl (cB "isinstance" (by decide)) rfl (cB "int" (by decide)) (by decide +kernel) v) (se_one (se_not (se_isi (T := .bool) rfl (cB "isinstance" (by decide)) rfl (cB "bool" (by decide)) (by decide +kernel) v))))))
theorem w_shape_fault (cB : Free mg ["abs", "bool", "enumerate", "int", "isinstance", "len", "list", "max", "min", "range", "repr", "str", "sum", "tuple"]) (cC : Co K mg) (o_is_integer : Own P w K mg base "is_integer" s_is_integer [] 1 ["value"] 1 m_is_integer) (D : Def K mg "shape_fault" s_shape_fault []) : Own P w K mg base "shape_fault" s_shape_fault [] 2 ["value"] 1 m_shape_fault := by
  refine own_of (N := ["value"]) D (by decide +kernel) rfl fun f cdv A outer z H hr gd => ?_
  have hN : (["value"] : List Str).Nodup := by decide +kernel
  have hu := hr.units
  have hu1 := units65 hr
  exact (sb_cons (ss_if (st_w (sw_or (st_not (st_truth (se_isi (T := .tuple) rfl (cB "isinstance" (by decide)) rfl (cB "tuple" (by decide)) (by decide +kernel) v))) (sw_or1 (st_cmp (oP_ne hu) (se_callB c_len rfl (cB "len" (by decide)) (by decide +kernel) (sa_cons v sa_nil)) se_int rfl))))
 (sb_one (ss_ret (se_tup (sa_cons se_none sa_nil))))
 sb_nil)
 (sb_cons (ss_if (st_w (sw_or (st_not (st_truth (se_own (md := [false]) (ix := [0]) (ds := []) o_is_integer (.inl ⟨rfl, fun _ _ _ _ _ _ us ws h1 h2 => match us, ws, h1, h2 with | [_], [], _, _ => rfl⟩) hr gd (sa_cons (se_ix v se_int (fun _ _ => rfl)) sa_nil)))) (sw_or1 (st_not (st_chain o_le o_le se_int (se_ix v se_int (fun _ _ => rfl)) se_int)))))
 (sb_one (ss_ret (se_tup (sa_cons se_int sa_nil))))
 sb_nil)
 (sb_cons (ss_if (st_w (sw_or (st_not (st_truth (se_isi (T := .str) rfl (cB "isinstance" (by decide)) rfl (cB "str" (by decide)) (by decide +kernel) (se_ix v se_int (fun _ _ => rfl))))) (sw_or1 (st_cmp (oP_notIn hu1) (se_ix v se_int (fun _ _ => rfl)) (se_con (cC.PARITIES)) rfl))))
 (sb_one (ss_ret (se_tup (sa_cons se_int sa_nil))))
 sb_nil)
 (sb_cons (ss_if (st_w (sw_or (st_not (st_truth (se_own (md := [false]) (ix := [0]) (ds := []) o_is_integer (.inl ⟨rfl, fun _ _ _ _ _ _ us ws h1 h2 => match us, ws, h1, h2 with | [_], [], _, _ => rfl⟩) hr gd (sa_cons (se_ix v se_int (fun _ _ => rfl)) sa_nil)))) (sw_or1 (st_not (st_chain o_le o_le se_int (se_ix v se_int (fun _ _ => rfl)) se_int)))))
 (sb_one (ss_ret (se_tup (sa_cons se_int sa_nil))))
 sb_nil)
 (sb_one (ss_ret (se_tup sa_nil)))))))
theorem w_require_shape (cB : Free mg ["abs", "bool", "enumerate", "int", "isinstance", "len", "list", "max", "min", "range", "repr", "str", "sum", "tuple"]) (cC : Co K mg) (o_shape_fault : Own P w K mg base "shape_fault" s_shape_fault [] 2 ["value"] 1 m_shape_fault) (D : Def K mg "require_shape" s_require_shape []) : Own P w K mg base "require_shape" s_require_shape [] 3 ["shape"] 2 m_require_shape := by
  refine own_of (N := ["shape", "fault"]) D (by decide +kernel) rfl fun f cdv A outer z H hr gd => ?_
  have hN : (["shape", "fault"] : List Str).Nodup := by decide +kernel
  have hu := hr.units
  have hu1 := units65 hr
  exact (sb_cons (ss_set hN rfl (by first | exact .inl rfl | exact .inr rfl) (se_own (md := [false]) (ix := [0]) (ds := []) o_shape_fault (.inl ⟨rfl, fun _ _ _ _ _ _ us ws h1 h2 => match us, ws, h1, h2 with | [_], [], _, _ => rfl⟩) hr gd (sa_cons v sa_nil)))
 (sb_one (ss_if (st_cmp (oP_ne hu) v (se_tup sa_nil) rfl)
 (sb_one ss_never)
 sb_nil)))
theorem w_fits_shape (cB : Free mg ["abs", "bool", "enumerate", "int", "isinstance", "len", "list", "max", "min", "range", "repr", "str", "sum", "tuple"]) (cC : Co K mg) (o_is_integer : Own P w K mg base "is_integer" s_is_integer [] 1 ["value"] 1 m_is_integer) (D : Def K mg "fits_shape" s_fits_shape []) : Own P w K mg base "fits_shape" s_fits_shape [] 2 ["shape", "value"] 2 m_fits_shape := by
  refine own_of (N := ["shape", "value"]) D (by decide +kernel) rfl fun f cdv A outer z H hr gd => ?_
  have hN : (["shape", "value"] : List Str).Nodup := by decide +kernel
  have hu := hr.units
  have hu1 := units65 hr
  exact (sb_one (ss_ret (se_and (se_own (md := [false]) (ix := [0]) (ds := []) o_is_integer (.inl ⟨rfl, fun _ _ _ _ _ _ us ws h1 h2 => match us, ws, h1, h2 with | [_], [], _, _ => rfl⟩) hr gd (sa_cons v sa_nil)) (se_one (se_chain o_le o_lt se_int v (se_bin o_shl se_int (se_ix v se_int (fun _ _ => rfl))))))))
theorem w_require_text (cB : Free mg ["abs", "bool", "enumerate", "int", "isinstance", "len", "list", "max", "min", "range", "repr", "str", "sum", "tuple"]) (cC : Co K mg) (o_fits_shape : Own P w K mg base "fits_shape" s_fits_shape [] 2 ["shape", "value"] 2 m_fits_shape) (D : Def K mg "require_text" s_require_text [.int 0, .int 60]) : Own P w K mg base "require_text" s_require_text [.int 0, .int 60] 3 ["shape", "numbers", "least", "most"] 6 m_require_text := by
  refine own_of (N := ["shape", "numbers", "least", "most", "index", "number"]) D (by decide +kernel) rfl fun f cdv A outer z H hr gd => ?_
  have hN : (["shape", "numbers", "least", "most", "index", "number"] : List Str).Nodup := by decide +kernel
  have hu := hr.units
  have hu1 := units65 hr
  exact (sb_cons (ss_if (st_w (sw_or (st_not (st_truth (se_isi (T := .list) rfl (cB "isinstance" (by decide)) rfl (cB "list" (by decide)) (by decide +kernel) v))) (sw_or1 (st_not (st_chain o_le o_le v (se_callB c_len rfl (cB "len" (by decide)) (by decide +kernel) (sa_cons v sa_nil)) v)))))
 (sb_one ss_never)
 sb_nil)
 (sb_one (ss_for passN rfl (si_enum rfl (cB "enumerate" (by decide)) (sa_cons v sa_nil)) (t_tp rfl (ts_cons (t_nm hN) (ts_cons (t_nm hN) ts_nil)))
 (sb_one (ss_if (st_not (st_truth (se_own (md := [false, false]) (ix := [0, 1]) (ds := []) o_fits_shape (.inl ⟨rfl, fun _ _ _ _ _ _ us ws h1 h2 => match us, ws, h1, h2 with | [_, _], [], _, _ => rfl⟩) hr gd (sa_cons v (sa_cons v sa_nil)))))
 (sb_one ss_never)
 sb_nil)))))
theorem w_parity_level (cB : Free mg ["abs", "bool", "enumerate", "int", "isinstance", "len", "list", "max", "min", "range", "repr", "str", "sum", "tuple"]) (cC : Co K mg)  (D : Def K mg "parity_level" s_parity_level []) : Own P w K mg base "parity_level" s_parity_level [] 1 ["shape", "number"] 4 m_parity_level := by
  refine own_of (N := ["shape", "number", "ones", "place"]) D (by decide +kernel) rfl fun f cdv A outer z H hr gd => ?_
  have hN : (["shape", "number", "ones", "place"] : List Str).Nodup := by decide +kernel
  have hu := hr.units
  have hu1 := units65 hr
  exact (sb_cons (ss_if (st_cmp (oP_eq hu) (se_ix v se_int (fun _ _ => rfl)) se_str rfl)
 (sb_one (ss_ret se_none))
 sb_nil)
 (sb_cons (ss_set hN rfl (by first | exact .inl rfl | exact .inr rfl) (se_callB (c_sum rfl) rfl (cB "sum" (by decide)) (by decide +kernel) (sa_cons (se_comp rfl hN (si_rng1 rfl (cB "range" (by decide)) (sa_cons (se_ix v se_int (fun _ _ => rfl)) sa_nil)) (blkOk_by (N := ["shape", "number", "ones", "place"]) (sc := defScope s_parity_level) (own := [("place", 3)]) (by decide +kernel)) rfl (by decide) (fun _ _ _ _ _ => (t_nm hN)) (fun _ _ _ _ _ => sts_nil) (fun _ _ _ _ _ => (se_bin o_and (se_bin o_shr v v) se_int))) sa_nil)))
 (sb_one (ss_ret (se_bin o_mod (se_bin oP_add v (se_callTy c_int rfl (cB "int" (by decide)) (by decide +kernel) (sa_cons (se_cmp (oP_eq hu) (se_ix v se_int (fun _ _ => rfl)) se_str rfl) sa_nil))) se_int)))))
theorem w_frame_levels (cB : Free mg ["abs", "bool", "enumerate", "int", "isinstance", "len", "list", "max", "min", "range", "repr", "str", "sum", "tuple"]) (cC : Co K mg) (o_parity_level : Own P w K mg base "parity_level" s_parity_level [] 1 ["shape", "number"] 4 m_parity_level) (D : Def K mg "frame_levels" s_frame_levels []) : Own P w K mg base "frame_levels" s_frame_levels [] 2 ["shape", "number"] 4 m_frame_levels := by
  refine own_of (N := ["shape", "number", "levels", "place"]) D (by decide +kernel) rfl fun f cdv A outer z H hr gd => ?_
  have hN : (["shape", "number", "levels", "place"] : List Str).Nodup := by decide +kernel
  have hu := hr.units
  have hu1 := units65 hr
  exact (sb_cons (ss_set hN rfl (by first | exact .inl rfl | exact .inr rfl) (se_bin oP_add (se_lst (sa_cons se_int sa_nil)) (se_comp rfl hN (si_rng1 rfl (cB "range" (by decide)) (sa_cons (se_ix v se_int (fun _ _ => rfl)) sa_nil)) (blkOk_by (N := ["shape", "number", "levels", "place"]) (sc := defScope s_frame_levels) (own := [("place", 3)]) (by decide +kernel)) rfl (by decide) (fun _ _ _ _ _ => (t_nm hN)) (fun _ _ _ _ _ => sts_nil) (fun _ _ _ _ _ => (se_bin o_and (se_bin o_shr v v) se_int)))))
 (sb_cons (ss_if (st_cmp (oP_ne hu) (se_ix v se_int (fun _ _ => rfl)) se_str rfl)
 (sb_one (ss_expr (se_meth PySem.F.slot_list_append rfl m_append v (sa_cons (se_own (md := [false, false]) (ix := [0, 1]) (ds := []) o_parity_level (.inl ⟨rfl, fun _ _ _ _ _ _ us ws h1 h2 => match us, ws, h1, h2 with | [_, _], [], _, _ => rfl⟩) hr gd (sa_cons v (sa_cons v sa_nil))) sa_nil))))
 sb_nil)
 (sb_one (ss_ret (se_bin oP_add v (se_bin oP_mul (se_lst (sa_cons se_int sa_nil)) (se_ix v se_int (fun _ _ => rfl))))))))
theorem w_levels_of (cB : Free mg ["abs", "bool", "enumerate", "int", "isinstance", "len", "list", "max", "min", "range", "repr", "str", "sum", "tuple"]) (cC : Co K mg) (o_require_shape : Own P w K mg base "require_shape" s_require_shape [] 3 ["shape"] 2 m_require_shape) (o_require_text : Own P w K mg base "require_text" s_require_text [.int 0, .int 60] 3 ["shape", "numbers", "least", "most"] 6 m_require_text) (o_frame_levels : Own P w K mg base "frame_levels" s_frame_levels [] 2 ["shape", "number"] 4 m_frame_levels) (D : Def K mg "levels_of" s_levels_of []) : Own P w K mg base "levels_of" s_levels_of [] 4 ["shape", "numbers"] 4 m_levels_of := by
  refine own_of (N := ["shape", "numbers", "number", "level"]) D (by decide +kernel) rfl fun f cdv A outer z H hr gd => ?_
  have hN : (["shape", "numbers", "number", "level"] : List Str).Nodup := by decide +kernel
  have hu := hr.units
  have hu1 := units65 hr
  exact (sb_cons (ss_expr (se_own (md := [false]) (ix := [0]) (ds := []) o_require_shape (.inl ⟨rfl, fun _ _ _ _ _ _ us ws h1 h2 => match us, ws, h1, h2 with | [_], [], _, _ => rfl⟩) hr gd (sa_cons v sa_nil)))
 (sb_cons (ss_expr (se_own (md := [false, false, false, false]) (ix := [0, 1, 2, 3]) (ds := [.int 0, .int 60]) o_require_text (.inr ⟨by simp, fun _ _ _ _ _ _ _ us ws its h1 h2 h3 => match us, ws, its, h1, h2, h3 with | [_, _], [], [_, _], _, _, _ => ⟨_, rfl, rfl⟩⟩) hr gd (sa_cons v (sa_cons v sa_nil))))
 (sb_one (ss_ret (se_comp2 rfl hN (si_seq v) (blkOk_by (N := ["shape", "numbers", "number", "level"]) (sc := defScope s_levels_of) (own := [("number", 2), ("level", 3)]) (by decide +kernel)) rfl (by decide) (by decide) (by decide) (fun _ _ _ _ _ => (t_nm hN)) (fun _ _ _ _ _ => sts_nil) (fun _ _ _ _ _ => (si_seq (se_own (md := [false, false]) (ix := [0, 1]) (ds := []) o_frame_levels (.inl ⟨rfl, fun _ _ _ _ _ _ us ws h1 h2 => match us, ws, h1, h2 with | [_, _], [], _, _ => rfl⟩) hr gd (sa_cons v (sa_cons v sa_nil))))) (fun _ _ _ _ _ => (t_nm hN)) (fun _ _ _ _ _ => sts_nil) (fun _ _ _ _ _ => v))))))
theorem w__law_frame (cB : Free mg ["abs", "bool", "enumerate", "int", "isinstance", "len", "list", "max", "min", "range", "repr", "str", "sum", "tuple"]) (cC : Co K mg)  (D : Def K mg "_law_frame" s__law_frame []) : Own P w K mg base "_law_frame" s__law_frame [] 1 ["_law_form", "_law_number"] 5 m__law_frame := by
  refine own_of (N := ["_law_form", "_law_number", "_law_levels", "_law_rest", "_law_turn"]) D (by decide +kernel) rfl fun f cdv A outer z H hr gd => ?_
  have hN : (["_law_form", "_law_number", "_law_levels", "_law_rest", "_law_turn"] : List Str).Nodup := by decide +kernel
  have hu := hr.units
  have hu1 := units65 hr
  exact (sb_cons (ss_par2 rfl hN rfl rfl (by decide) rfl rfl (sa_cons (se_lst sa_nil) (sa_cons v sa_nil)) (by rfl))
 (sb_cons (ss_for passN rfl (si_rng1 rfl (cB "range" (by decide)) (sa_cons (se_ix v se_int (fun _ _ => rfl)) sa_nil)) (t_nm hN)
 (sb_cons (ss_expr (se_meth PySem.F.slot_list_append rfl m_append v (sa_cons (se_bin o_mod (se_callTy c_int rfl (cB "int" (by decide)) (by decide +kernel) (sa_cons v sa_nil)) se_int) sa_nil)))
 (sb_one (ss_set hN rfl (by first | exact .inl rfl | exact .inr rfl) (se_bin o_fdiv v se_int)))))
 (sb_cons (ss_if (st_cmp (oP_eq hu) (se_ix v se_int (fun _ _ => rfl)) se_str rfl)
 (sb_one (ss_expr (se_meth PySem.F.slot_list_append rfl m_append v (sa_cons (se_bin o_mod (se_callTy c_int rfl (cB "int" (by decide)) (by decide +kernel) (sa_cons (se_callB (c_sum rfl) rfl (cB "sum" (by decide)) (by decide +kernel) (sa_cons v sa_nil)) sa_nil)) se_int) sa_nil))))
 (sb_one (ss_if (st_cmp (oP_eq hu) (se_ix v se_int (fun _ _ => rfl)) se_str rfl)
 (sb_one (ss_expr (se_meth PySem.F.slot_list_append rfl m_append v (sa_cons (se_bin o_sub se_int (se_bin o_mod (se_callTy c_int rfl (cB "int" (by decide)) (by decide +kernel) (sa_cons (se_callB (c_sum rfl) rfl (cB "sum" (by decide)) (by decide +kernel) (sa_cons v sa_nil)) sa_nil)) se_int)) sa_nil))))
 sb_nil)))
 (sb_one (ss_ret (se_bin oP_add (se_bin oP_add (se_lst (sa_cons se_int sa_nil)) v) (se_bin oP_mul (se_lst (sa_cons se_int sa_nil)) (se_ix v se_int (fun _ _ => rfl)))))))))
theorem w_require_number (cB : Free mg ["abs", "bool", "enumerate", "int", "isinstance", "len", "list", "max", "min", "range", "repr", "str", "sum", "tuple"]) (cC : Co K mg) (o_fits_shape : Own P w K mg base "fits_shape" s_fits_shape [] 2 ["shape", "value"] 2 m_fits_shape) (D : Def K mg "require_number" s_require_number []) : Own P w K mg base "require_number" s_require_number [] 3 ["shape", "number"] 2 m_require_number := by
  refine own_of (N := ["shape", "number"]) D (by decide +kernel) rfl fun f cdv A outer z H hr gd => ?_
  have hN : (["shape", "number"] : List Str).Nodup := by decide +kernel
  have hu := hr.units
  have hu1 := units65 hr
  exact (sb_one (ss_if (st_not (st_truth (se_own (md := [false, false]) (ix := [0, 1]) (ds := []) o_fits_shape (.inl ⟨rfl, fun _ _ _ _ _ _ us ws h1 h2 => match us, ws, h1, h2 with | [_, _], [], _, _ => rfl⟩) hr gd (sa_cons v (sa_cons v sa_nil)))))
 (sb_one ss_never)
 sb_nil))
theorem w_frame_of (cB : Free mg ["abs", "bool", "enumerate", "int", "isinstance", "len", "list", "max", "min", "range", "repr", "str", "sum", "tuple"]) (cC : Co K mg) (o_require_shape : Own P w K mg base "require_shape" s_require_shape [] 3 ["shape"] 2 m_require_shape) (o_frame_levels : Own P w K mg base "frame_levels" s_frame_levels [] 2 ["shape", "number"] 4 m_frame_levels) (o_require_number : Own P w K mg base "require_number" s_require_number [] 3 ["shape", "number"] 2 m_require_number) (D : Def K mg "frame_of" s_frame_of []) : Own P w K mg base "frame_of" s_frame_of [] 4 ["shape", "number"] 2 m_frame_of := by
  refine own_of (N := ["shape", "number"]) D (by decide +kernel) rfl fun f cdv A outer z H hr gd => ?_
  have hN : (["shape", "number"] : List Str).Nodup := by decide +kernel
  have hu := hr.units
  have hu1 := units65 hr
  exact (sb_cons (ss_expr (se_own (md := [false]) (ix := [0]) (ds := []) o_require_shape (.inl ⟨rfl, fun _ _ _ _ _ _ us ws h1 h2 => match us, ws, h1, h2 with | [_], [], _, _ => rfl⟩) hr gd (sa_cons v sa_nil)))
 (sb_cons (ss_expr (se_own (md := [false, false]) (ix := [0, 1]) (ds := []) o_require_number (.inl ⟨rfl, fun _ _ _ _ _ _ us ws h1 h2 => match us, ws, h1, h2 with | [_, _], [], _, _ => rfl⟩) hr gd (sa_cons v (sa_cons v sa_nil))))
 (sb_one (ss_ret (se_own (md := [false, false]) (ix := [0, 1]) (ds := []) o_frame_levels (.inl ⟨rfl, fun _ _ _ _ _ _ us ws h1 h2 => match us, ws, h1, h2 with | [_, _], [], _, _ => rfl⟩) hr gd (sa_cons v (sa_cons v sa_nil)))))))
theorem w__law_right (cB : Free mg ["abs", "bool", "enumerate", "int", "isinstance", "len", "list", "max", "min", "range", "repr", "str", "sum", "tuple"]) (cC : Co K mg) (o_levels_of : Own P w K mg base "levels_of" s_levels_of [] 4 ["shape", "numbers"] 4 m_levels_of) (o__law_frame : Own P w K mg base "_law_frame" s__law_frame [] 1 ["_law_form", "_law_number"] 5 m__law_frame) (o_frame_of : Own P w K mg base "frame_of" s_frame_of [] 4 ["shape", "number"] 2 m_frame_of) (D : Def K mg "_law_right" s__law_right []) : Own P w K mg base "_law_right" s__law_right [] 5 ["_law_form", "_law_codes"] 6 m__law_right := by
  refine own_of (N := ["_law_form", "_law_codes", "_law_due", "_law_passed", "_law_number", "_law_found"]) D (by decide +kernel) rfl fun f cdv A outer z H hr gd => ?_
  have hN : (["_law_form", "_law_codes", "_law_due", "_law_passed", "_law_number", "_law_found"] : List Str).Nodup := by decide +kernel
  have hu := hr.units
  have hu1 := units65 hr
  exact (sb_cons (ss_par2 rfl hN rfl rfl (by decide) rfl rfl (sa_cons (se_lst sa_nil) (sa_cons (se_callTy c_list rfl (cB "list" (by decide)) (by decide +kernel) (sa_cons v sa_nil)) sa_nil)) (by rfl))
 (sb_cons (ss_for passN rfl (si_seq v) (t_nm hN)
 (sb_one (ss_set hN rfl (by first | exact .inl rfl | exact .inr rfl) (se_bin oP_add v (se_own (md := [false, false]) (ix := [0, 1]) (ds := []) o__law_frame (.inl ⟨rfl, fun _ _ _ _ _ _ us ws h1 h2 => match us, ws, h1, h2 with | [_, _], [], _, _ => rfl⟩) hr gd (sa_cons v (sa_cons v sa_nil)))))))
 (sb_cons (ss_set hN rfl (by first | exact .inl rfl | exact .inr rfl) (se_own (md := [false, false]) (ix := [0, 1]) (ds := []) o_levels_of (.inl ⟨rfl, fun _ _ _ _ _ _ us ws h1 h2 => match us, ws, h1, h2 with | [_, _], [], _, _ => rfl⟩) hr gd (sa_cons v (sa_cons v sa_nil))))
 (sb_cons (ss_if (st_w (sw_or (st_cmp (oP_ne hu) (se_callB (c_repr gd hu) rfl (cB "repr" (by decide)) (by decide +kernel) (sa_cons v sa_nil)) (se_callB (c_repr gd hu) rfl (cB "repr" (by decide)) (by decide +kernel) (sa_cons v sa_nil)) rfl) (sw_or1 (st_cmp (oP_ne hu) (se_callB (c_repr gd hu) rfl (cB "repr" (by decide)) (by decide +kernel) (sa_cons v sa_nil)) (se_callB (c_repr gd hu) rfl (cB "repr" (by decide)) (by decide +kernel) (sa_cons v sa_nil)) rfl))))
 (sb_one (ss_ret se_bool))
 sb_nil)
 (sb_cons (ss_expr (se_meth PySem.F.slot_list_append rfl m_append v (sa_cons se_int sa_nil)))
 (sb_cons (ss_expr (se_meth PySem.F.slot_list_append rfl m_append v (sa_cons se_int sa_nil)))
 (sb_cons (ss_if (st_cmp (oP_ne hu) (se_callB (c_repr gd hu) rfl (cB "repr" (by decide)) (by decide +kernel) (sa_cons (se_own (md := [false, false]) (ix := [0, 1]) (ds := []) o_levels_of (.inl ⟨rfl, fun _ _ _ _ _ _ us ws h1 h2 => match us, ws, h1, h2 with | [_, _], [], _, _ => rfl⟩) hr gd (sa_cons v (sa_cons v sa_nil))) sa_nil)) (se_callB (c_repr gd hu) rfl (cB "repr" (by decide)) (by decide +kernel) (sa_cons v sa_nil)) rfl)
 (sb_one (ss_ret se_bool))
 sb_nil)
 (sb_cons (ss_set hN rfl (by first | exact .inl rfl | exact .inr rfl) (se_slice v so_none (so_some se_int)))
 (sb_one (ss_ret (se_cmp (oP_eq hu) (se_callB (c_repr gd hu) rfl (cB "repr" (by decide)) (by decide +kernel) (sa_cons (se_ownK0 (ks := ["numbers", "shape"]) (md := [false, false]) (ix := [1, 0]) (ds := []) o_levels_of (.inl ⟨rfl, fun _ _ _ _ _ _ us ws h1 h2 => match us, ws, h1, h2 with | [], [_, _], _, _ => rfl⟩) hr gd (sk_cons v (sk_cons v sk_nil))) sa_nil)) (se_callB (c_repr gd hu) rfl (cB "repr" (by decide)) (by decide +kernel) (sa_cons (se_own (md := [false, false]) (ix := [0, 1]) (ds := []) o_frame_of (.inl ⟨rfl, fun _ _ _ _ _ _ us ws h1 h2 => match us, ws, h1, h2 with | [_, _], [], _, _ => rfl⟩) hr gd (sa_cons v (sa_cons (se_ix v se_int (fun _ _ => rfl)) sa_nil))) sa_nil)) rfl)))))))))))
theorem w__law_text (cB : Free mg ["abs", "bool", "enumerate", "int", "isinstance", "len", "list", "max", "min", "range", "repr", "str", "sum", "tuple"]) (cC : Co K mg) (o__law_draw : Own P w K mg base "_law_draw" s__law_draw [] 1 ["_law_source_here", "_law_many"] 4 m__law_draw) (D : Def K mg "_law_text" s__law_text []) : Own P w K mg base "_law_text" s__law_text [] 2 ["_law_source_here", "_law_form", "_law_many"] 6 m__law_text := by
  refine own_of (N := ["_law_source_here", "_law_form", "_law_many", "_law_most", "_law_turn", "_law_found"]) D (by decide +kernel) rfl fun f cdv A outer z H hr gd => ?_
  have hN : (["_law_source_here", "_law_form", "_law_many", "_law_most", "_law_turn", "_law_found"] : List Str).Nodup := by decide +kernel
  have hu := hr.units
  have hu1 := units65 hr
  exact (sb_cons (ss_set hN rfl (by first | exact .inl rfl | exact .inr rfl) se_int)
 (sb_cons (ss_for passN rfl (si_rng1 rfl (cB "range" (by decide)) (sa_cons (se_ix v se_int (fun _ _ => rfl)) sa_nil)) (t_nm hN)
 (sb_one (ss_set hN rfl (by first | exact .inl rfl | exact .inr rfl) (se_bin oP_mul se_int v))))
 (sb_cons (ss_set hN rfl (by first | exact .inl rfl | exact .inr rfl) (se_lst sa_nil))
 (sb_cons (ss_for passN rfl (si_rng1 rfl (cB "range" (by decide)) (sa_cons v sa_nil)) (t_nm hN)
 (sb_one (ss_expr (se_meth PySem.F.slot_list_append rfl m_append v (sa_cons (se_ix (se_lst (sa_cons se_int (sa_cons (se_bin o_sub v se_int) (sa_cons (se_own (md := [true, false]) (ix := [0, 1]) (ds := []) o__law_draw (.inl ⟨rfl, fun _ _ _ _ _ _ us ws h1 h2 => match us, ws, h1, h2 with | [_, _], [], _, _ => rfl⟩) hr gd (sa_cons v (sa_cons v sa_nil))) (sa_cons (se_own (md := [true, false]) (ix := [0, 1]) (ds := []) o__law_draw (.inl ⟨rfl, fun _ _ _ _ _ _ us ws h1 h2 => match us, ws, h1, h2 with | [_, _], [], _, _ => rfl⟩) hr gd (sa_cons v (sa_cons v sa_nil))) sa_nil))))) (se_own (md := [true, false]) (ix := [0, 1]) (ds := []) o__law_draw (.inl ⟨rfl, fun _ _ _ _ _ _ us ws h1 h2 => match us, ws, h1, h2 with | [_, _], [], _, _ => rfl⟩) hr gd (sa_cons v (sa_cons se_int sa_nil))) (fun _ _ => rfl)) sa_nil)))))
 (sb_one (ss_ret v))))))
theorem w_law (cB : Free mg ["abs", "bool", "enumerate", "int", "isinstance", "len", "list", "max", "min", "range", "repr", "str", "sum", "tuple"]) (cC : Co K mg) (o__law_source : Own P w K mg base "_law_source" s__law_source [] 1 ["_law_script", "_law_at"] 4 m__law_source) (o__law_draw : Own P w K mg base "_law_draw" s__law_draw [] 1 ["_law_source_here", "_law_many"] 4 m__law_draw) (o__law_shape : Own P w K mg base "_law_shape" s__law_shape [] 2 ["_law_source_here"] 2 m__law_shape) (o_levels_of : Own P w K mg base "levels_of" s_levels_of [] 4 ["shape", "numbers"] 4 m_levels_of) (o__law_right : Own P w K mg base "_law_right" s__law_right [] 5 ["_law_form", "_law_codes"] 6 m__law_right) (o__law_text : Own P w K mg base "_law_text" s__law_text [] 2 ["_law_source_here", "_law_form", "_law_many"] 6 m__law_text) {fa : Addr} {fd : FuncData} (D : FunD K "law" "law" (defArgs s_law) (defBody s_law) (defScope s_law) [] [] fa fd) : FnG P w K mg base 6 fa fd ["_law_script"] 5 m_law := by
  refine fnG_of (N := ["_law_script", "_law_at", "_law_source_here", "_law_form", "_law_codes"]) D (C8.fnScope_by (by decide +kernel)) rfl fun cdv A outer z H hr gd => ?_
  have hN : (["_law_script", "_law_at", "_law_source_here", "_law_form", "_law_codes"] : List Str).Nodup := by decide +kernel
  have hu := hr.units
  have hu1 := units65 hr
  exact (sb_cons (ss_for passN rfl (si_rng1 rfl (cB "range" (by decide)) (sa_cons (se_callB (c_max2 rfl) rfl (cB "max" (by decide)) (by decide +kernel) (sa_cons se_int (sa_cons (se_callB (c_min2 rfl) rfl (cB "min" (by decide)) (by decide +kernel) (sa_cons se_int (sa_cons (se_callB c_len rfl (cB "len" (by decide)) (by decide +kernel) (sa_cons v sa_nil)) sa_nil))) sa_nil))) sa_nil)) (t_nm hN)
 (sb_cons (ss_set hN rfl (by first | exact .inl rfl | exact .inr rfl) (se_own (md := [false, false]) (ix := [0, 1]) (ds := []) o__law_source (.inl ⟨rfl, fun _ _ _ _ _ _ us ws h1 h2 => match us, ws, h1, h2 with | [_, _], [], _, _ => rfl⟩) hr gd (sa_cons v (sa_cons v sa_nil))))
 (sb_cons (ss_set hN rfl (by first | exact .inl rfl | exact .inr rfl) (se_own (md := [true]) (ix := [0]) (ds := []) o__law_shape (.inl ⟨rfl, fun _ _ _ _ _ _ us ws h1 h2 => match us, ws, h1, h2 with | [_], [], _, _ => rfl⟩) hr gd (sa_cons v sa_nil)))
 (sb_cons (ss_if (st_not (st_truth (se_own (md := [false, false]) (ix := [0, 1]) (ds := []) o__law_right (.inl ⟨rfl, fun _ _ _ _ _ _ us ws h1 h2 => match us, ws, h1, h2 with | [_, _], [], _, _ => rfl⟩) hr gd (sa_cons v (sa_cons (se_own (md := [true, false, false]) (ix := [0, 1, 2]) (ds := []) o__law_text (.inl ⟨rfl, fun _ _ _ _ _ _ us ws h1 h2 => match us, ws, h1, h2 with | [_, _, _], [], _, _ => rfl⟩) hr gd (sa_cons v (sa_cons v (sa_cons (se_own (md := [true, false]) (ix := [0, 1]) (ds := []) o__law_draw (.inl ⟨rfl, fun _ _ _ _ _ _ us ws h1 h2 => match us, ws, h1, h2 with | [_, _], [], _, _ => rfl⟩) hr gd (sa_cons v (sa_cons se_int sa_nil))) sa_nil)))) sa_nil)))))
 (sb_one (ss_ret se_bool))
 sb_nil)
 (sb_one (ss_if (st_cmp (oP_eq hu) v se_int rfl)
 (sb_cons (ss_set hN rfl (by first | exact .inl rfl | exact .inr rfl) (se_own (md := [true, false, false]) (ix := [0, 1, 2]) (ds := []) o__law_text (.inl ⟨rfl, fun _ _ _ _ _ _ us ws h1 h2 => match us, ws, h1, h2 with | [_, _, _], [], _, _ => rfl⟩) hr gd (sa_cons v (sa_cons v (sa_cons (se_bin oP_add se_int (se_own (md := [true, false]) (ix := [0, 1]) (ds := []) o__law_draw (.inl ⟨rfl, fun _ _ _ _ _ _ us ws h1 h2 => match us, ws, h1, h2 with | [_, _], [], _, _ => rfl⟩) hr gd (sa_cons v (sa_cons se_int sa_nil)))) sa_nil)))))
 (sb_one (ss_if (st_not (st_truth (se_own (md := [false, false]) (ix := [0, 1]) (ds := []) o__law_right (.inl ⟨rfl, fun _ _ _ _ _ _ us ws h1 h2 => match us, ws, h1, h2 with | [_, _], [], _, _ => rfl⟩) hr gd (sa_cons v (sa_cons v sa_nil)))))
 (sb_one (ss_ret se_bool))
 sb_nil)))
 sb_nil))))))
 (sb_one (ss_ret (se_and (se_cmp (oP_eq hu) (se_own (md := [false, false]) (ix := [0, 1]) (ds := []) o_levels_of (.inl ⟨rfl, fun _ _ _ _ _ _ us ws h1 h2 => match us, ws, h1, h2 with | [_, _], [], _, _ => rfl⟩) hr gd (sa_cons (se_tup (sa_cons se_int (sa_cons se_str (sa_cons se_int sa_nil)))) (sa_cons (se_lst sa_nil) sa_nil))) (se_lst sa_nil) rfl) (se_one (se_cmp (oP_eq hu) (se_callB c_len rfl (cB "len" (by decide)) (by decide +kernel) (sa_cons (se_own (md := [false, false]) (ix := [0, 1]) (ds := []) o_levels_of (.inl ⟨rfl, fun _ _ _ _ _ _ us ws h1 h2 => match us, ws, h1, h2 with | [_, _], [], _, _ => rfl⟩) hr gd (sa_cons (se_tup (sa_cons se_int (sa_cons se_str (sa_cons se_int sa_nil)))) (sa_cons (se_bin oP_mul (se_lst (sa_cons se_int sa_nil)) se_int) sa_nil))) sa_nil)) se_int rfl))))))
end
theorem all_mk {l : PySem.W.OpenLaw} {w : World} {K : PySem.W.Frag} {h : Heap} {mg : Str → Option Value} {fa : Addr} (X : K.In h) (G : h.Ns mainGlobals mg) (hfa : mg "law" = some (.ref fa))
    {t0_1 : Tok}
    {t0_2 : Tok}
    {t0_3 : Tok}
    {a0_0 : Addr} {n0_0 : Nat}
    {f0 : Addr} {od0 an0 : Option Addr} {sl0 : Array (Option Value)} {oc0 kV0 dc0 pm0 cd0 ct0 : Value}
    {f1 : Addr} {od1 an1 : Option Addr} {sl1 : Array (Option Value)} {oc1 kV1 dc1 pm1 cd1 ct1 : Value}
    {f2 : Addr} {od2 an2 : Option Addr} {sl2 : Array (Option Value)} {oc2 kV2 dc2 pm2 cd2 ct2 : Value}
    {f3 : Addr} {od3 an3 : Option Addr} {sl3 : Array (Option Value)} {oc3 kV3 dc3 pm3 cd3 ct3 : Value}
    {f4 : Addr} {od4 an4 : Option Addr} {sl4 : Array (Option Value)} {oc4 kV4 dc4 pm4 cd4 ct4 : Value}
    {f5 : Addr} {od5 an5 : Option Addr} {sl5 : Array (Option Value)} {oc5 kV5 dc5 pm5 cd5 ct5 : Value}
    {f6 : Addr} {od6 an6 : Option Addr} {sl6 : Array (Option Value)} {oc6 kV6 dc6 pm6 cd6 ct6 : Value}
    {f7 : Addr} {od7 an7 : Option Addr} {sl7 : Array (Option Value)} {oc7 kV7 dc7 pm7 cd7 ct7 : Value}
    {T7 : Addr} {nT7 : Nat}
    {tk7_0 : Tok}
    {tk7_1 : Tok}
    {f8 : Addr} {od8 an8 : Option Addr} {sl8 : Array (Option Value)} {oc8 kV8 dc8 pm8 cd8 ct8 : Value}
    {f9 : Addr} {od9 an9 : Option Addr} {sl9 : Array (Option Value)} {oc9 kV9 dc9 pm9 cd9 ct9 : Value}
    {f10 : Addr} {od10 an10 : Option Addr} {sl10 : Array (Option Value)} {oc10 kV10 dc10 pm10 cd10 ct10 : Value}
    {f11 : Addr} {od11 an11 : Option Addr} {sl11 : Array (Option Value)} {oc11 kV11 dc11 pm11 cd11 ct11 : Value}
    {f12 : Addr} {od12 an12 : Option Addr} {sl12 : Array (Option Value)} {oc12 kV12 dc12 pm12 cd12 ct12 : Value}
    {f13 : Addr} {od13 an13 : Option Addr} {sl13 : Array (Option Value)} {oc13 kV13 dc13 pm13 cd13 ct13 : Value}
    {f14 : Addr} {od14 an14 : Option Addr} {sl14 : Array (Option Value)} {oc14 kV14 dc14 pm14 cd14 ct14 : Value}
    {f15 : Addr} {od15 an15 : Option Addr} {sl15 : Array (Option Value)} {oc15 kV15 dc15 pm15 cd15 ct15 : Value}
    {f16 : Addr} {od16 an16 : Option Addr} {sl16 : Array (Option Value)} {oc16 kV16 dc16 pm16 cd16 ct16 : Value}
    (z0 : PySem.W.nsIn K mainGlobals "abs" = some none)
    (z1 : PySem.W.nsIn K mainGlobals "bool" = some none)
    (z2 : PySem.W.nsIn K mainGlobals "enumerate" = some none)
    (z3 : PySem.W.nsIn K mainGlobals "int" = some none)
    (z4 : PySem.W.nsIn K mainGlobals "isinstance" = some none)
    (z5 : PySem.W.nsIn K mainGlobals "len" = some none)
    (z6 : PySem.W.nsIn K mainGlobals "list" = some none)
    (z7 : PySem.W.nsIn K mainGlobals "max" = some none)
    (z8 : PySem.W.nsIn K mainGlobals "min" = some none)
    (z9 : PySem.W.nsIn K mainGlobals "range" = some none)
    (z10 : PySem.W.nsIn K mainGlobals "repr" = some none)
    (z11 : PySem.W.nsIn K mainGlobals "str" = some none)
    (z12 : PySem.W.nsIn K mainGlobals "sum" = some none)
    (z13 : PySem.W.nsIn K mainGlobals "tuple" = some none)
    (g0 : PySem.W.nsIn K mainGlobals "PARITIES" = some (some (.ref a0_0)))
    (la0_0 : K.lookup a0_0 = some { cls := .type "tuple", data := .seq ([.str "none" t0_1, .str "even" t0_2, .str "odd" t0_3] : List Value).toArray n0_0 })
    (a0 : PySem.W.nsIn K mainGlobals "_law_source" = some (some (.ref f0)))
    (l0 : K.lookup f0 = some ⟨oc0, od0, .func (PySem.W.fnOf "_law_source" "_law_source" (defArgs s__law_source) (defBody s__law_source) (defScope s__law_source) .none kV0 dc0 pm0 an0 cd0 ct0), sl0⟩)
    (c0 : PySem.W.codeIn K cd0 "_law_source" = true)
    (k0 : PySem.W.keepIn K (.ref f0) = true)
    (a1 : PySem.W.nsIn K mainGlobals "_law_draw" = some (some (.ref f1)))
    (l1 : K.lookup f1 = some ⟨oc1, od1, .func (PySem.W.fnOf "_law_draw" "_law_draw" (defArgs s__law_draw) (defBody s__law_draw) (defScope s__law_draw) .none kV1 dc1 pm1 an1 cd1 ct1), sl1⟩)
    (c1 : PySem.W.codeIn K cd1 "_law_draw" = true)
    (k1 : PySem.W.keepIn K (.ref f1) = true)
    (a2 : PySem.W.nsIn K mainGlobals "_law_shape" = some (some (.ref f2)))
    (l2 : K.lookup f2 = some ⟨oc2, od2, .func (PySem.W.fnOf "_law_shape" "_law_shape" (defArgs s__law_shape) (defBody s__law_shape) (defScope s__law_shape) .none kV2 dc2 pm2 an2 cd2 ct2), sl2⟩)
    (c2 : PySem.W.codeIn K cd2 "_law_shape" = true)
    (k2 : PySem.W.keepIn K (.ref f2) = true)
    (a3 : PySem.W.nsIn K mainGlobals "is_integer" = some (some (.ref f3)))
    (l3 : K.lookup f3 = some ⟨oc3, od3, .func (PySem.W.fnOf "is_integer" "is_integer" (defArgs s_is_integer) (defBody s_is_integer) (defScope s_is_integer) .none kV3 dc3 pm3 an3 cd3 ct3), sl3⟩)
    (c3 : PySem.W.codeIn K cd3 "is_integer" = true)
    (k3 : PySem.W.keepIn K (.ref f3) = true)
    (a4 : PySem.W.nsIn K mainGlobals "shape_fault" = some (some (.ref f4)))
    (l4 : K.lookup f4 = some ⟨oc4, od4, .func (PySem.W.fnOf "shape_fault" "shape_fault" (defArgs s_shape_fault) (defBody s_shape_fault) (defScope s_shape_fault) .none kV4 dc4 pm4 an4 cd4 ct4), sl4⟩)
    (c4 : PySem.W.codeIn K cd4 "shape_fault" = true)
    (k4 : PySem.W.keepIn K (.ref f4) = true)
    (a5 : PySem.W.nsIn K mainGlobals "require_shape" = some (some (.ref f5)))
    (l5 : K.lookup f5 = some ⟨oc5, od5, .func (PySem.W.fnOf "require_shape" "require_shape" (defArgs s_require_shape) (defBody s_require_shape) (defScope s_require_shape) .none kV5 dc5 pm5 an5 cd5 ct5), sl5⟩)
    (c5 : PySem.W.codeIn K cd5 "require_shape" = true)
    (k5 : PySem.W.keepIn K (.ref f5) = true)
    (a6 : PySem.W.nsIn K mainGlobals "fits_shape" = some (some (.ref f6)))
    (l6 : K.lookup f6 = some ⟨oc6, od6, .func (PySem.W.fnOf "fits_shape" "fits_shape" (defArgs s_fits_shape) (defBody s_fits_shape) (defScope s_fits_shape) .none kV6 dc6 pm6 an6 cd6 ct6), sl6⟩)
    (c6 : PySem.W.codeIn K cd6 "fits_shape" = true)
    (k6 : PySem.W.keepIn K (.ref f6) = true)
    (a7 : PySem.W.nsIn K mainGlobals "require_text" = some (some (.ref f7)))
    (l7 : K.lookup f7 = some ⟨oc7, od7, .func (PySem.W.fnOf "require_text" "require_text" (defArgs s_require_text) (defBody s_require_text) (defScope s_require_text) (.ref T7) kV7 dc7 pm7 an7 cd7 ct7), sl7⟩)
    (T7l : K.lookup T7 = some { cls := .type "tuple", data := .seq ([.int 0 tk7_0, .int 60 tk7_1] : List Value).toArray nT7 })
    (c7 : PySem.W.codeIn K cd7 "require_text" = true)
    (k7 : PySem.W.keepIn K (.ref f7) = true)
    (a8 : PySem.W.nsIn K mainGlobals "parity_level" = some (some (.ref f8)))
    (l8 : K.lookup f8 = some ⟨oc8, od8, .func (PySem.W.fnOf "parity_level" "parity_level" (defArgs s_parity_level) (defBody s_parity_level) (defScope s_parity_level) .none kV8 dc8 pm8 an8 cd8 ct8), sl8⟩)
    (c8 : PySem.W.codeIn K cd8 "parity_level" = true)
    (k8 : PySem.W.keepIn K (.ref f8) = true)
    (a9 : PySem.W.nsIn K mainGlobals "frame_levels" = some (some (.ref f9)))
    (l9 : K.lookup f9 = some ⟨oc9, od9, .func (PySem.W.fnOf "frame_levels" "frame_levels" (defArgs s_frame_levels) (defBody s_frame_levels) (defScope s_frame_levels) .none kV9 dc9 pm9 an9 cd9 ct9), sl9⟩)
    (c9 : PySem.W.codeIn K cd9 "frame_levels" = true)
    (k9 : PySem.W.keepIn K (.ref f9) = true)
    (a10 : PySem.W.nsIn K mainGlobals "levels_of" = some (some (.ref f10)))
    (l10 : K.lookup f10 = some ⟨oc10, od10, .func (PySem.W.fnOf "levels_of" "levels_of" (defArgs s_levels_of) (defBody s_levels_of) (defScope s_levels_of) .none kV10 dc10 pm10 an10 cd10 ct10), sl10⟩)
    (c10 : PySem.W.codeIn K cd10 "levels_of" = true)
    (k10 : PySem.W.keepIn K (.ref f10) = true)
    (a11 : PySem.W.nsIn K mainGlobals "_law_frame" = some (some (.ref f11)))
    (l11 : K.lookup f11 = some ⟨oc11, od11, .func (PySem.W.fnOf "_law_frame" "_law_frame" (defArgs s__law_frame) (defBody s__law_frame) (defScope s__law_frame) .none kV11 dc11 pm11 an11 cd11 ct11), sl11⟩)
    (c11 : PySem.W.codeIn K cd11 "_law_frame" = true)
    (k11 : PySem.W.keepIn K (.ref f11) = true)
    (a12 : PySem.W.nsIn K mainGlobals "require_number" = some (some (.ref f12)))
    (l12 : K.lookup f12 = some ⟨oc12, od12, .func (PySem.W.fnOf "require_number" "require_number" (defArgs s_require_number) (defBody s_require_number) (defScope s_require_number) .none kV12 dc12 pm12 an12 cd12 ct12), sl12⟩)
    (c12 : PySem.W.codeIn K cd12 "require_number" = true)
    (k12 : PySem.W.keepIn K (.ref f12) = true)
    (a13 : PySem.W.nsIn K mainGlobals "frame_of" = some (some (.ref f13)))
    (l13 : K.lookup f13 = some ⟨oc13, od13, .func (PySem.W.fnOf "frame_of" "frame_of" (defArgs s_frame_of) (defBody s_frame_of) (defScope s_frame_of) .none kV13 dc13 pm13 an13 cd13 ct13), sl13⟩)
    (c13 : PySem.W.codeIn K cd13 "frame_of" = true)
    (k13 : PySem.W.keepIn K (.ref f13) = true)
    (a14 : PySem.W.nsIn K mainGlobals "_law_right" = some (some (.ref f14)))
    (l14 : K.lookup f14 = some ⟨oc14, od14, .func (PySem.W.fnOf "_law_right" "_law_right" (defArgs s__law_right) (defBody s__law_right) (defScope s__law_right) .none kV14 dc14 pm14 an14 cd14 ct14), sl14⟩)
    (c14 : PySem.W.codeIn K cd14 "_law_right" = true)
    (k14 : PySem.W.keepIn K (.ref f14) = true)
    (a15 : PySem.W.nsIn K mainGlobals "_law_text" = some (some (.ref f15)))
    (l15 : K.lookup f15 = some ⟨oc15, od15, .func (PySem.W.fnOf "_law_text" "_law_text" (defArgs s__law_text) (defBody s__law_text) (defScope s__law_text) .none kV15 dc15 pm15 an15 cd15 ct15), sl15⟩)
    (c15 : PySem.W.codeIn K cd15 "_law_text" = true)
    (k15 : PySem.W.keepIn K (.ref f15) = true)
    (a16 : PySem.W.nsIn K mainGlobals "law" = some (some (.ref f16)))
    (l16 : K.lookup f16 = some ⟨oc16, od16, .func (PySem.W.fnOf "law" "law" (defArgs s_law) (defBody s_law) (defScope s_law) .none kV16 dc16 pm16 an16 cd16 ct16), sl16⟩)
    (c16 : PySem.W.codeIn K cd16 "law" = true)
    (k16 : PySem.W.keepIn K (.ref f16) = true)
    : ∃ fd : FuncData, (∀ (y : Shared) (u : Value), BindsTo y fd ⟨[u], []⟩ [("_law_script", u)]) ∧ ∀ base : Heap, K.In base → base.Ns mainGlobals mg → FnG l.prog w K mg base 6 fa fd ["_law_script"] 5 m_law := by
  have e := hfa.symm.trans (PySem.W.mg_of X G a16)
  cases e
  have cB : Free mg ["abs", "bool", "enumerate", "int", "isinstance", "len", "list", "max", "min", "range", "repr", "str", "sum", "tuple"] := by
    intro x hx
    simp only [List.mem_cons, List.not_mem_nil, or_false] at hx
    rcases hx with rfl | rfl | rfl | rfl | rfl | rfl | rfl | rfl | rfl | rfl | rfl | rfl | rfl | rfl
    · exact PySem.W.mg_none_of X G z0
    · exact PySem.W.mg_none_of X G z1
    · exact PySem.W.mg_none_of X G z2
    · exact PySem.W.mg_none_of X G z3
    · exact PySem.W.mg_none_of X G z4
    · exact PySem.W.mg_none_of X G z5
    · exact PySem.W.mg_none_of X G z6
    · exact PySem.W.mg_none_of X G z7
    · exact PySem.W.mg_none_of X G z8
    · exact PySem.W.mg_none_of X G z9
    · exact PySem.W.mg_none_of X G z10
    · exact PySem.W.mg_none_of X G z11
    · exact PySem.W.mg_none_of X G z12
    · exact PySem.W.mg_none_of X G z13
  have cC : Co K mg := ⟨⟨.ref a0_0, _, PySem.W.mg_of X G g0, rfl, fun _ _ => (.tup (tup_k (xs := [.str "none", .str "even", .str "odd"]) la0_0 (show 3 ≤ sizeLine by decide) (.cons ⟨_, rfl⟩ (.cons ⟨_, rfl⟩ (.cons ⟨_, rfl⟩ .nil)))) (.cons (.str _) (.cons (.str _) (.cons (.str _) .nil))))⟩⟩
  have D : FunD K "law" "law" (defArgs s_law) (defBody s_law) (defScope s_law) [] [] fa _ := ⟨⟨_, _, _, _, _, _, _, _, _, _, rfl, l16, c16, (.inl ⟨rfl, rfl⟩), .inl rfl⟩, k16⟩
  refine ⟨_, fun y u => FunD.bindsA (ps := ["_law_script"]) D (fun _ _ _ _ _ _ us hl => match us, hl with | [_], _ => rfl) y [u] rfl, fun base _ _ => ?_⟩
  have o__law_source := w__law_source (P := l.prog) (w := w) (base := base) cB cC  ⟨_, _, PySem.W.mg_of X G a0, ⟨⟨_, _, _, _, _, _, _, _, _, _, rfl, l0, c0, (.inl ⟨rfl, rfl⟩), .inl rfl⟩, k0⟩⟩
  have o__law_draw := w__law_draw (P := l.prog) (w := w) (base := base) cB cC  ⟨_, _, PySem.W.mg_of X G a1, ⟨⟨_, _, _, _, _, _, _, _, _, _, rfl, l1, c1, (.inl ⟨rfl, rfl⟩), .inl rfl⟩, k1⟩⟩
  have o__law_shape := w__law_shape (P := l.prog) (w := w) (base := base) cB cC o__law_draw ⟨_, _, PySem.W.mg_of X G a2, ⟨⟨_, _, _, _, _, _, _, _, _, _, rfl, l2, c2, (.inl ⟨rfl, rfl⟩), .inl rfl⟩, k2⟩⟩
  have o_is_integer := w_is_integer (P := l.prog) (w := w) (base := base) cB cC  ⟨_, _, PySem.W.mg_of X G a3, ⟨⟨_, _, _, _, _, _, _, _, _, _, rfl, l3, c3, (.inl ⟨rfl, rfl⟩), .inl rfl⟩, k3⟩⟩
  have o_shape_fault := w_shape_fault (P := l.prog) (w := w) (base := base) cB cC o_is_integer ⟨_, _, PySem.W.mg_of X G a4, ⟨⟨_, _, _, _, _, _, _, _, _, _, rfl, l4, c4, (.inl ⟨rfl, rfl⟩), .inl rfl⟩, k4⟩⟩
  have o_require_shape := w_require_shape (P := l.prog) (w := w) (base := base) cB cC o_shape_fault ⟨_, _, PySem.W.mg_of X G a5, ⟨⟨_, _, _, _, _, _, _, _, _, _, rfl, l5, c5, (.inl ⟨rfl, rfl⟩), .inl rfl⟩, k5⟩⟩
  have o_fits_shape := w_fits_shape (P := l.prog) (w := w) (base := base) cB cC o_is_integer ⟨_, _, PySem.W.mg_of X G a6, ⟨⟨_, _, _, _, _, _, _, _, _, _, rfl, l6, c6, (.inl ⟨rfl, rfl⟩), .inl rfl⟩, k6⟩⟩
  have o_require_text := w_require_text (P := l.prog) (w := w) (base := base) cB cC o_fits_shape ⟨_, _, PySem.W.mg_of X G a7, ⟨⟨_, _, _, _, _, _, _, _, _, _, rfl, l7, c7, (.inr ⟨by simp, T7, _, _, _, rfl, T7l, rfl, (.cons ⟨_, rfl⟩ (.cons ⟨_, rfl⟩ .nil))⟩), .inl rfl⟩, k7⟩⟩
  have o_parity_level := w_parity_level (P := l.prog) (w := w) (base := base) cB cC  ⟨_, _, PySem.W.mg_of X G a8, ⟨⟨_, _, _, _, _, _, _, _, _, _, rfl, l8, c8, (.inl ⟨rfl, rfl⟩), .inl rfl⟩, k8⟩⟩
  have o_frame_levels := w_frame_levels (P := l.prog) (w := w) (base := base) cB cC o_parity_level ⟨_, _, PySem.W.mg_of X G a9, ⟨⟨_, _, _, _, _, _, _, _, _, _, rfl, l9, c9, (.inl ⟨rfl, rfl⟩), .inl rfl⟩, k9⟩⟩
  have o_levels_of := w_levels_of (P := l.prog) (w := w) (base := base) cB cC o_require_shape o_require_text o_frame_levels ⟨_, _, PySem.W.mg_of X G a10, ⟨⟨_, _, _, _, _, _, _, _, _, _, rfl, l10, c10, (.inl ⟨rfl, rfl⟩), .inl rfl⟩, k10⟩⟩
  have o__law_frame := w__law_frame (P := l.prog) (w := w) (base := base) cB cC  ⟨_, _, PySem.W.mg_of X G a11, ⟨⟨_, _, _, _, _, _, _, _, _, _, rfl, l11, c11, (.inl ⟨rfl, rfl⟩), .inl rfl⟩, k11⟩⟩
  have o_require_number := w_require_number (P := l.prog) (w := w) (base := base) cB cC o_fits_shape ⟨_, _, PySem.W.mg_of X G a12, ⟨⟨_, _, _, _, _, _, _, _, _, _, rfl, l12, c12, (.inl ⟨rfl, rfl⟩), .inl rfl⟩, k12⟩⟩
  have o_frame_of := w_frame_of (P := l.prog) (w := w) (base := base) cB cC o_require_shape o_frame_levels o_require_number ⟨_, _, PySem.W.mg_of X G a13, ⟨⟨_, _, _, _, _, _, _, _, _, _, rfl, l13, c13, (.inl ⟨rfl, rfl⟩), .inl rfl⟩, k13⟩⟩
  have o__law_right := w__law_right (P := l.prog) (w := w) (base := base) cB cC o_levels_of o__law_frame o_frame_of ⟨_, _, PySem.W.mg_of X G a14, ⟨⟨_, _, _, _, _, _, _, _, _, _, rfl, l14, c14, (.inl ⟨rfl, rfl⟩), .inl rfl⟩, k14⟩⟩
  have o__law_text := w__law_text (P := l.prog) (w := w) (base := base) cB cC o__law_draw ⟨_, _, PySem.W.mg_of X G a15, ⟨⟨_, _, _, _, _, _, _, _, _, _, rfl, l15, c15, (.inl ⟨rfl, rfl⟩), .inl rfl⟩, k15⟩⟩
  exact w_law cB cC o__law_source o__law_draw o__law_shape o_levels_of o__law_right o__law_text D
end P
theorem P.keeps : E.Keeps P.m_law 63 := E.keeps_law

open PySem PySem.W PyProof.Rows
set_option maxHeartbeats 0 in
theorem PySem.Challenge.cw_startbits_k03_levels_of_texts_holds : PySem.Challenge.rw_startbits_k03_levels_of_texts.Holds := by
  w_on; o_law; k_headL; (case hw => w_witness2)
  k_fill
  refine E.walk_g (l := PySem.Challenge.rw_startbits_k03_levels_of_texts) (k := 6) (n := 5) (x := "_law_script") (F := P.m_law) rfl (by decide) rfl ⟨rfl, by decide, by decide⟩ (by decide) (fun w h Y => PySem.W.kIn_of Y) ?F P.keeps
  case F =>
    intro w mg fa h KX G hmg
    refine' P.all_mk KX G hmg ?z0 ?z1 ?z2 ?z3 ?z4 ?z5 ?z6 ?z7 ?z8 ?z9 ?z10 ?z11 ?z12 ?z13 ?g0 ?la0_0 ?a0 ?l0 ?c0 ?k0 ?a1 ?l1 ?c1 ?k1 ?a2 ?l2 ?c2 ?k2 ?a3 ?l3 ?c3 ?k3 ?a4 ?l4 ?c4 ?k4 ?a5 ?l5 ?c5 ?k5 ?a6 ?l6 ?c6 ?k6 ?a7 ?l7 ?T7l ?c7 ?k7 ?a8 ?l8 ?c8 ?k8 ?a9 ?l9 ?c9 ?k9 ?a10 ?l10 ?c10 ?k10 ?a11 ?l11 ?c11 ?k11 ?a12 ?l12 ?c12 ?k12 ?a13 ?l13 ?c13 ?k13 ?a14 ?l14 ?c14 ?k14 ?a15 ?l15 ?c15 ?k15 ?a16 ?l16 ?c16 ?k16
    (case z0 => k_is)
    (case z1 => k_is)
    (case z2 => k_is)
    (case z3 => k_is)
    (case z4 => k_is)
    (case z5 => k_is)
    (case z6 => k_is)
    (case z7 => k_is)
    (case z8 => k_is)
    (case z9 => k_is)
    (case z10 => k_is)
    (case z11 => k_is)
    (case z12 => k_is)
    (case z13 => k_is)
    (case g0 => k_is)
    (case la0_0 => k_is)
    (case a0 => k_is)
    (case l0 => k_is)
    (case c0 => k_is)
    (case k0 => k_is)
    (case a1 => k_is)
    (case l1 => k_is)
    (case c1 => k_is)
    (case k1 => k_is)
    (case a2 => k_is)
    (case l2 => k_is)
    (case c2 => k_is)
    (case k2 => k_is)
    (case a3 => k_is)
    (case l3 => k_is)
    (case c3 => k_is)
    (case k3 => k_is)
    (case a4 => k_is)
    (case l4 => k_is)
    (case c4 => k_is)
    (case k4 => k_is)
    (case a5 => k_is)
    (case l5 => k_is)
    (case c5 => k_is)
    (case k5 => k_is)
    (case a6 => k_is)
    (case l6 => k_is)
    (case c6 => k_is)
    (case k6 => k_is)
    (case a7 => k_is)
    (case l7 => k_is)
    (case T7l => k_is)
    (case c7 => k_is)
    (case k7 => k_is)
    (case a8 => k_is)
    (case l8 => k_is)
    (case c8 => k_is)
    (case k8 => k_is)
    (case a9 => k_is)
    (case l9 => k_is)
    (case c9 => k_is)
    (case k9 => k_is)
    (case a10 => k_is)
    (case l10 => k_is)
    (case c10 => k_is)
    (case k10 => k_is)
    (case a11 => k_is)
    (case l11 => k_is)
    (case c11 => k_is)
    (case k11 => k_is)
    (case a12 => k_is)
    (case l12 => k_is)
    (case c12 => k_is)
    (case k12 => k_is)
    (case a13 => k_is)
    (case l13 => k_is)
    (case c13 => k_is)
    (case k13 => k_is)
    (case a14 => k_is)
    (case l14 => k_is)
    (case c14 => k_is)
    (case k14 => k_is)
    (case a15 => k_is)
    (case l15 => k_is)
    (case c15 => k_is)
    (case k15 => k_is)
    (case a16 => k_is)
    (case l16 => k_is)
    (case c16 => k_is)
    (case k16 => k_is)
