import PyProof.Rows.All
import Wide.All
import OpenK.AllK
import Wide.FinOn
import HandS.ForMost
import HandS.Wide
import HandS.WideBits
import HandS.IsInst
import HandS.Flow
import HandS.Deep
import HandS.Exc
import HandS.Dict
import PyProof.ReprReads
import HandS.Star
import HandS.SortInts
import HandS.Flt
import HandS.RaiseMore
import PyProof.ReprRoads
import HandS.Style
import KE.GoesEnum
import KE.GoesMore
import HandS.Defaults
import HandS.Ends
import HandS.Words
import HandS.Codes
import HandS.Conv
import PyProof.LongRange
import HandS.FStr
import HandS.Text
import HandS.TupAny
import HandS.TryOnly
import HandS.ExcInit
import HandS.ExcField
import HandS.TryMany
import KE.KExcIs
import HandS.ExcCtx
import HandS.Hot
import HandS.HotCalls
import HandS.More
import PyProof.ReprBulk
import PyProof.FitsInt
import KE.BitLaws
import KE.OsRunLaw
import PySem.Challenge.RW_startbits_k68_texts_written_and_read
import PyProof.StrLawsRepr
set_option Elab.async false
set_option linter.all false
set_option maxRecDepth 100000
set_option maxHeartbeats 4000000
/-! E0: data semantics: values as data trees, own lists in cells; states, results; the relation to the abstract heap. -/
namespace E
open PySem PySem.Spec PyProof.Rows L2

abbrev D := PyData
abbrev St := L2.St
/-- an exception: its class, its fields; a value: data (never changed again), the list in a cell, an exception that was caught -/
structure Ex where
  cls : String
  fs : List (Str × D)
inductive R where
  | sh (d : D)
  | own (c : Nat)
  | ex (x : Ex)
/-- a cell: nothing, a list that may change, a list that is fixed, a list that is walked just now -/
inductive Cell where
  | dead
  | lv (ds : List D)
  | fz (ds : List D)
  | lk (ds : List D)
  | dv (ds : List (Key × D))
  | tr (d : D)
structure S where
  sl : List (Option R)
  ce : List Cell
  np : Nat
inductive Res (α : Type) where
  | ok (a : α) (s : S)
  | exc (x : Ex) (s : S)
  | bad
def Res.bind {α β : Type} (r : Res α) (f : α → S → Res β) : Res β :=
  match r with
  | .ok a s => f a s
  | .exc x s => .exc x s
  | .bad => .bad
@[simp] theorem Res.bind_ok {α β : Type} (a : α) (s : S) (f : α → S → Res β) : (Res.ok a s).bind f = f a s := rfl
@[simp] theorem Res.bind_exc {α β : Type} (x : Ex) (s : S) (f : α → S → Res β) : (Res.exc x s : Res α).bind f = .exc x s := rfl
@[simp] theorem Res.bind_bad {α β : Type} (f : α → S → Res β) : (Res.bad : Res α).bind f = .bad := rfl
inductive Fl where
  | nx | bk | ct
  | rt (r : R)
abbrev ES := S → Res R
abbrev TS' := S → Res Bool
abbrev AS := S → Res (List R)
abbrev SS := S → Res Fl

/-! ### the relation -/
/-- a dict's key as data -/
def keyD : Key → D
  | .inl i => .int i
  | .inr x => .str x
section
variable (K : PySem.W.Frag) (Z : Addr → Prop) (H : Hp)
/-- a list that is to be read -/
def LstA (a : Addr) (xs : List V) : Prop :=
  H a = some (.lst xs) ∨ (∃ o, H a = some (.frz o (.lst xs))) ∨
    ∃ (its : List Value) (n : Nat), K.lookup a = some { cls := .type "list", data := .seq its.toArray n } ∧ xs.length ≤ sizeLine ∧ Vals xs its
/-- a list that will not change -/
def LstZ (a : Addr) (xs : List V) : Prop :=
  (Z a ∧ H a = some (.lst xs)) ∨ (Z sysModules ∧ ∃ o, H a = some (.frz o (.lst xs))) ∨
    Z sysModules ∧ ∃ (its : List Value) (n : Nat), K.lookup a = some { cls := .type "list", data := .seq its.toArray n } ∧ xs.length ≤ sizeLine ∧ Vals xs its
mutual
inductive Den : V → D → Prop
  | non : Den .non .none
  | bl (b : Bool) : Den (.bl b) (.bool b)
  | int (i : Int) : Den (.int i) (.int i)
  | str (x : Str) : Den (.str x) (.str x)
  | lst {a : Addr} {xs : List V} {ds : List D} : LstZ K Z H a xs → Dens xs ds → Den (.ref a) (.list ds)
  | tup {a : Addr} {xs : List V} {ds : List D} : SqT K H a xs → Dens xs ds → Den (.ref a) (.tuple ds)
  | dic {a : Addr} {kvs : List (Key × V)} {ds : List (D × D)} : (Z a ∧ H a = some (.dK kvs)) → DKv kvs ds → Den (.ref a) (.dict ds)
inductive Dens : List V → List D → Prop
  | nil : Dens [] []
  | cons {v : V} {vs : List V} {d : D} {ds : List D} : Den v d → Dens vs ds → Dens (v :: vs) (d :: ds)
inductive DKv : List (Key × V) → List (D × D) → Prop
  | nil : DKv [] []
  | cons {k : Key} {v : V} {kvs : List (Key × V)} {d : D} {ds : List (D × D)} : Den v d → DKv kvs ds → DKv ((k, v) :: kvs) ((keyD k, d) :: ds)
end
end
/-- heaps: all that data leans on stays -/
structure Stay (Z : Addr → Prop) (H : Hp) (Z' : Addr → Prop) (H' : Hp) : Prop where
  z : ∀ a, Z a → Z' a
  l : ∀ a xs, Z a → H a = some (.lst xs) → H' a = some (.lst xs)
  t : ∀ a xs, H a = some (.tup xs) → H' a = some (.tup xs)
  f : ∀ a o u, H a = some (.frz o u) → H' a = some (.frz o u)
  d : ∀ a kvs, Z a → H a = some (.dK kvs) → H' a = some (.dK kvs)
  x : ∀ a fs, H a = some (.xd fs) → H' a = some (.xd fs)
theorem Stay.refl {Z : Addr → Prop} {H : Hp} : Stay Z H Z H := ⟨fun _ h => h, fun _ _ _ h => h, fun _ _ h => h, fun _ _ _ h => h, fun _ _ _ h => h, fun _ _ h => h⟩
section
variable {K : PySem.W.Frag} {mg : Str → Option Value} {Z Z' : Addr → Prop} {H H' : Hp}
theorem LstZ.stay (y : Stay Z H Z' H') {a : Addr} {xs : List V} (h : LstZ K Z H a xs) : LstZ K Z' H' a xs := by
  rcases h with ⟨h1, h2⟩ | ⟨z, o, h⟩ | ⟨z, h⟩
  · exact .inl ⟨y.z _ h1, y.l _ _ h1 h2⟩
  · exact .inr (.inl ⟨y.z _ z, o, y.f _ _ _ h⟩)
  · exact .inr (.inr ⟨y.z _ z, h⟩)
theorem SqT.stay (y : Stay Z H Z' H') {a : Addr} {xs : List V} (h : SqT K H a xs) : SqT K H' a xs := by
  rcases h with (h | ⟨o, h⟩) | h
  · exact .inl (.inl (y.t _ _ h))
  · exact .inl (.inr ⟨o, y.f _ _ _ h⟩)
  · exact .inr h
theorem LstZ.any {a : Addr} {xs : List V} (h : LstZ K Z H a xs) : LstA K H a xs := by
  rcases h with ⟨_, h⟩ | ⟨_, h⟩ | ⟨_, h⟩
  · exact .inl h
  · exact .inr (.inl h)
  · exact .inr (.inr h)
theorem LstA.sq {a : Addr} {xs : List V} (h : LstA K H a xs) : SqL K H a xs := by
  rcases h with h | ⟨o, h⟩ | ⟨its, n, h, hz, hv⟩
  · exact .inl (.inl h)
  · exact .inl (.inr ⟨o, h⟩)
  · exact .inr ⟨_, its.toArray, n, h, rfl, rfl, rfl, by rw [List.size_toArray, ← hv.length]; exact hz, by simpa using hv⟩
theorem LstZ.sq {a : Addr} {xs : List V} (h : LstZ K Z H a xs) : SqL K H a xs := h.any.sq
/-- as the heap has it -/
theorem LstA.obj {X : Cx} {pins : List (Addr × Obj)} {σ : St} {s : Shared} (I : Inv X pins σ H s) {a : Addr} {xs : List V} (h : LstA X.K H a xs) :
    xs.length ≤ sizeLine ∧ ∃ (its : List Value) (n : Nat), Vals xs its ∧ s.heap.get? a = some { cls := .type "list", data := .seq its.toArray n } := by
  rcases h with h | ⟨o, h⟩ | ⟨its, n, h, hz, hv⟩
  · exact I.hok a _ h
  · exact (I.hok a _ h).2
  · exact ⟨hz, its, n, hv, I.kIn a _ h⟩
mutual
theorem Den.stay (y : Stay Z H Z' H') : ∀ {v : V} {d : D}, Den K Z H v d → Den K Z' H' v d
  | _, _, .non => .non
  | _, _, .bl b => .bl b
  | _, _, .int i => .int i
  | _, _, .str x => .str x
  | _, _, .lst h ha => .lst (LstZ.stay y h) (Dens.stay y ha)
  | _, _, .tup h ha => .tup (SqT.stay y h) (Dens.stay y ha)
  | _, _, .dic h ha => .dic ⟨y.z _ h.1, y.d _ _ h.1 h.2⟩ (DKv.stay y ha)
theorem Dens.stay (y : Stay Z H Z' H') : ∀ {vs : List V} {ds : List D}, Dens K Z H vs ds → Dens K Z' H' vs ds
  | _, _, .nil => .nil
  | _, _, .cons h t => .cons (Den.stay y h) (Dens.stay y t)
theorem DKv.stay (y : Stay Z H Z' H') : ∀ {vs : List (Key × V)} {ds : List (D × D)}, DKv K Z H vs ds → DKv K Z' H' vs ds
  | _, _, .nil => .nil
  | _, _, .cons h t => .cons (Den.stay y h) (DKv.stay y t)
end
mutual
theorem Den.dp : ∀ {v : V} {d : D}, Den K Z H v d → d.hasDict = false → Dp K H v d
  | _, _, .non, _ => .non
  | _, _, .bl b, _ => .bl b
  | _, _, .int i, _ => .int i
  | _, _, .str x, _ => .str x
  | _, _, .lst h ha, n => .lst (LstZ.sq h) (Dens.dp ha (by unfold PyData.hasDict at n; exact n))
  | _, _, .tup h ha, n => .tup h (Dens.dp ha (by unfold PyData.hasDict at n; exact n))
  | _, _, .dic _ _, n => by unfold PyData.hasDict at n; cases n
theorem Dens.dp : ∀ {vs : List V} {ds : List D}, Dens K Z H vs ds → PyData.hasDictAll ds = false → DpAll K H vs ds
  | _, _, .nil, _ => .nil
  | _, _, .cons h t, n => by
    unfold PyData.hasDictAll at n
    obtain ⟨n1, n2⟩ := Bool.or_eq_false_iff.mp n
    exact .cons (Den.dp h n1) (Dens.dp t n2)
end
theorem Dens.length : ∀ {vs : List V} {ds : List D}, Dens K Z H vs ds → vs.length = ds.length
  | _, _, .nil => rfl
  | _, _, .cons _ t => by simp [Dens.length t]
theorem Dens.get : ∀ {vs : List V} {ds : List D} {i : Nat} {d : D}, Dens K Z H vs ds → ds[i]? = some d → ∃ v, vs[i]? = some v ∧ Den K Z H v d
  | _, _, _, _, .nil, e => by simp at e
  | _, _, 0, _, .cons h _, e => by simp at e; subst e; exact ⟨_, rfl, h⟩
  | _, _, i + 1, d, .cons _ t, e => by
    obtain ⟨v, h1, h2⟩ := Dens.get (i := i) (d := d) t (by simpa using e)
    exact ⟨v, by simpa using h1, h2⟩
theorem Dens.getV : ∀ {vs : List V} {ds : List D} {i : Nat} {v : V}, Dens K Z H vs ds → vs[i]? = some v → ∃ d, ds[i]? = some d ∧ Den K Z H v d
  | _, _, _, _, .nil, e => by simp at e
  | _, _, 0, _, .cons h _, e => by simp at e; subst e; exact ⟨_, rfl, h⟩
  | _, _, i + 1, v, .cons _ t, e => by
    obtain ⟨d, h1, h2⟩ := Dens.getV (i := i) (v := v) t (by simpa using e)
    exact ⟨d, by simpa using h1, h2⟩
theorem Dens.append : ∀ {vs : List V} {ds : List D} {ws : List V} {es : List D}, Dens K Z H vs ds → Dens K Z H ws es → Dens K Z H (vs ++ ws) (ds ++ es)
  | _, _, _, _, .nil, q => q
  | _, _, _, _, .cons h t, q => .cons h (Dens.append t q)
theorem Dens.take : ∀ {vs : List V} {ds : List D} (n : Nat), Dens K Z H vs ds → Dens K Z H (vs.take n) (ds.take n)
  | _, _, 0, _ => .nil
  | _, _, _ + 1, .nil => .nil
  | _, _, n + 1, .cons h t => .cons h (Dens.take n t)
theorem Dens.drop : ∀ {vs : List V} {ds : List D} (n : Nat), Dens K Z H vs ds → Dens K Z H (vs.drop n) (ds.drop n)
  | _, _, 0, h => h
  | _, _, _ + 1, .nil => .nil
  | _, _, n + 1, .cons h t => Dens.drop n t
theorem Dens.set : ∀ {vs : List V} {ds : List D} (i : Nat) {v : V} {d : D}, Dens K Z H vs ds → Den K Z H v d → Dens K Z H (vs.set i v) (ds.set i d)
  | _, _, _, _, _, .nil, _ => .nil
  | _, _, 0, _, _, .cons _ t, q => .cons q t
  | _, _, i + 1, _, _, .cons h t, q => .cons h (Dens.set i t q)
theorem Dens.reverse : ∀ {vs : List V} {ds : List D}, Dens K Z H vs ds → Dens K Z H vs.reverse ds.reverse
  | _, _, .nil => .nil
  | _, _, .cons h t => by
    rw [List.reverse_cons, List.reverse_cons]
    exact Dens.append (Dens.reverse t) (.cons h .nil)
theorem Dens.map_int : ∀ ns : List Int, Dens K Z H (ns.map V.int) (ns.map PyData.int)
  | [] => .nil
  | n :: r => .cons (.int n) (Dens.map_int r)
end

/-- an open dict's entries -/
inductive DKs (K : PySem.W.Frag) (Z : Addr → Prop) (H : Hp) : List (Key × V) → List (Key × D) → Prop
  | nil : DKs K Z H [] []
  | cons {k : Key} {v : V} {kvs : List (Key × V)} {d : D} {ds : List (Key × D)} : Den K Z H v d → DKs K Z H kvs ds → DKs K Z H ((k, v) :: kvs) ((k, d) :: ds)
theorem DKs.stay {K : PySem.W.Frag} {Z Z' : Addr → Prop} {H H' : Hp} (y : Stay Z H Z' H') : ∀ {kvs : List (Key × V)} {ds : List (Key × D)}, DKs K Z H kvs ds → DKs K Z' H' kvs ds
  | _, _, .nil => .nil
  | _, _, .cons h t => .cons (Den.stay y h) (DKs.stay y t)
theorem DKs.length {K : PySem.W.Frag} {Z : Addr → Prop} {H : Hp} : ∀ {kvs : List (Key × V)} {ds : List (Key × D)}, DKs K Z H kvs ds → kvs.length = ds.length
  | _, _, .nil => rfl
  | _, _, .cons _ t => by simp [DKs.length t]
theorem DKs.kv {K : PySem.W.Frag} {Z : Addr → Prop} {H : Hp} : ∀ {kvs : List (Key × V)} {ds : List (Key × D)}, DKs K Z H kvs ds → DKv K Z H kvs (ds.map fun p => (keyD p.1, p.2))
  | _, _, .nil => .nil
  | _, _, .cons h t => .cons h (DKs.kv t)
/-- an object as data: its class, its fields -/
def objD (cls : String) (ds : List (D × D)) : D := .dict ((.tuple [.str (Str.ofString cls)], .none) :: ds)
mutual
/-- what one owns: each list and each object in it is held from here alone; fs: where they lie -/
inductive OwnV (K : PySem.W.Frag) (mg : Str → Option Value) (H : Hp) : V → D → List Addr → Prop
  | non : OwnV K mg H .non .none []
  | bl (b : Bool) : OwnV K mg H (.bl b) (.bool b) []
  | int (i : Int) : OwnV K mg H (.int i) (.int i) []
  | str (x : Str) : OwnV K mg H (.str x) (.str x) []
  | tup {a : Addr} {xs : List V} {ds : List D} {fs : List Addr} : SqT K H a xs → OwnsV K mg H xs ds fs → OwnV K mg H (.ref a) (.tuple ds) fs
  | lst {a : Addr} {xs : List V} {ds : List D} {fs : List Addr} : H a = some (.lst xs) → OwnsV K mg H xs ds fs → OwnV K mg H (.ref a) (.list ds) (a :: fs)
  | obj {a C dx : Addr} {cls : String} {kvs : List (Str × V)} {ds : List (D × D)} {fs : List Addr} : H a = some (.ins C dx kvs) → mg (Str.ofString cls) = some (.ref C) → OwnFV K mg H kvs ds fs → OwnV K mg H (.ref a) (objD cls ds) (a :: fs)
inductive OwnsV (K : PySem.W.Frag) (mg : Str → Option Value) (H : Hp) : List V → List D → List Addr → Prop
  | nil : OwnsV K mg H [] [] []
  | cons {v : V} {vs : List V} {d : D} {ds : List D} {fs gs : List Addr} : OwnV K mg H v d fs → OwnsV K mg H vs ds gs → OwnsV K mg H (v :: vs) (d :: ds) (fs ++ gs)
inductive OwnFV (K : PySem.W.Frag) (mg : Str → Option Value) (H : Hp) : List (Str × V) → List (D × D) → List Addr → Prop
  | nil : OwnFV K mg H [] [] []
  | cons {f : Str} {v : V} {kvs : List (Str × V)} {d : D} {ds : List (D × D)} {fs gs : List Addr} : OwnV K mg H v d fs → OwnFV K mg H kvs ds gs → OwnFV K mg H ((f, v) :: kvs) ((.str f, d) :: ds) (fs ++ gs)
end
section
variable {K : PySem.W.Frag} {mg : Str → Option Value} {H H' : Hp}
mutual
theorem OwnV.stay (hT : ∀ a xs, SqT K H a xs → SqT K H' a xs) : ∀ {v : V} {d : D} {fs : List Addr}, OwnV K mg H v d fs → (∀ b ∈ fs, ∀ o, H b = some o → H' b = some o) → OwnV K mg H' v d fs
  | _, _, _, .non, _ => .non
  | _, _, _, .bl b, _ => .bl b
  | _, _, _, .int i, _ => .int i
  | _, _, _, .str x, _ => .str x
  | _, _, _, .tup h o, k => .tup (hT _ _ h) (OwnsV.stay hT o k)
  | _, _, _, .lst h o, k => .lst (k _ List.mem_cons_self _ h) (OwnsV.stay hT o fun b hb => k b (List.mem_cons_of_mem _ hb))
  | _, _, _, .obj h m o, k => .obj (k _ List.mem_cons_self _ h) m (OwnFV.stay hT o fun b hb => k b (List.mem_cons_of_mem _ hb))
theorem OwnsV.stay (hT : ∀ a xs, SqT K H a xs → SqT K H' a xs) : ∀ {vs : List V} {ds : List D} {fs : List Addr}, OwnsV K mg H vs ds fs → (∀ b ∈ fs, ∀ o, H b = some o → H' b = some o) → OwnsV K mg H' vs ds fs
  | _, _, _, .nil, _ => .nil
  | _, _, _, .cons a b, k => .cons (OwnV.stay hT a fun x hx => k x (List.mem_append_left _ hx)) (OwnsV.stay hT b fun x hx => k x (List.mem_append_right _ hx))
theorem OwnFV.stay (hT : ∀ a xs, SqT K H a xs → SqT K H' a xs) : ∀ {vs : List (Str × V)} {ds : List (D × D)} {fs : List Addr}, OwnFV K mg H vs ds fs → (∀ b ∈ fs, ∀ o, H b = some o → H' b = some o) → OwnFV K mg H' vs ds fs
  | _, _, _, .nil, _ => .nil
  | _, _, _, .cons a b, k => .cons (OwnV.stay hT a fun x hx => k x (List.mem_append_left _ hx)) (OwnFV.stay hT b fun x hx => k x (List.mem_append_right _ hx))
end
mutual
/-- what is owned may be read as data where all its places are fixed -/
theorem OwnV.den {Z : Addr → Prop} : ∀ {v : V} {d : D} {fs : List Addr}, OwnV K mg H v d fs → d.hasDict = false → (∀ b ∈ fs, Z b) → Den K Z H v d
  | _, _, _, .non, _, _ => .non
  | _, _, _, .bl b, _, _ => .bl b
  | _, _, _, .int i, _, _ => .int i
  | _, _, _, .str x, _, _ => .str x
  | _, _, _, .tup h o, n, k => .tup h (OwnsV.den o (by unfold PyData.hasDict at n; exact n) k)
  | _, _, _, .lst h o, n, k => .lst (.inl ⟨k _ List.mem_cons_self, h⟩) (OwnsV.den o (by unfold PyData.hasDict at n; exact n) fun b hb => k b (List.mem_cons_of_mem _ hb))
  | _, _, _, .obj h m o, n, _ => by unfold objD PyData.hasDict at n; cases n
theorem OwnsV.den {Z : Addr → Prop} : ∀ {vs : List V} {ds : List D} {fs : List Addr}, OwnsV K mg H vs ds fs → PyData.hasDictAll ds = false → (∀ b ∈ fs, Z b) → Dens K Z H vs ds
  | _, _, _, .nil, _, _ => .nil
  | _, _, _, .cons a b, n, k => by
    unfold PyData.hasDictAll at n
    obtain ⟨n1, n2⟩ := Bool.or_eq_false_iff.mp n
    exact .cons (OwnV.den a n1 fun x hx => k x (List.mem_append_left _ hx)) (OwnsV.den b n2 fun x hx => k x (List.mem_append_right _ hx))
end
/-- a list or an object -/
def MutO (o : HO) : Prop := (∃ xs, o = .lst xs) ∨ ∃ C dx kvs, o = .ins C dx kvs
mutual
theorem OwnV.at : ∀ {v : V} {d : D} {fs : List Addr}, OwnV K mg H v d fs → ∀ b ∈ fs, ∃ o, H b = some o ∧ MutO o
  | _, _, _, .non, b, h => by cases h
  | _, _, _, .bl _, b, h => by cases h
  | _, _, _, .int _, b, h => by cases h
  | _, _, _, .str _, b, h => by cases h
  | _, _, _, .tup _ o, b, h => OwnsV.at o b h
  | _, _, _, .lst e o, b, h => by
    rcases List.mem_cons.mp h with rfl | h
    · exact ⟨_, e, .inl ⟨_, rfl⟩⟩
    · exact OwnsV.at o b h
  | _, _, _, .obj e _ o, b, h => by
    rcases List.mem_cons.mp h with rfl | h
    · exact ⟨_, e, .inr ⟨_, _, _, rfl⟩⟩
    · exact OwnFV.at o b h
theorem OwnsV.at : ∀ {vs : List V} {ds : List D} {fs : List Addr}, OwnsV K mg H vs ds fs → ∀ b ∈ fs, ∃ o, H b = some o ∧ MutO o
  | _, _, _, .nil, b, h => by cases h
  | _, _, _, .cons x y, b, h => by
    rcases List.mem_append.mp h with h | h
    · exact OwnV.at x b h
    · exact OwnsV.at y b h
theorem OwnFV.at : ∀ {vs : List (Str × V)} {ds : List (D × D)} {fs : List Addr}, OwnFV K mg H vs ds fs → ∀ b ∈ fs, ∃ o, H b = some o ∧ MutO o
  | _, _, _, .nil, b, h => by cases h
  | _, _, _, .cons x y, b, h => by
    rcases List.mem_append.mp h with h | h
    · exact OwnV.at x b h
    · exact OwnFV.at y b h
end
end
/-- where the frozen lists and the cells' lists lie; of what one owns: all its places -/
structure Wd where
  Z : Addr → Prop
  ρ : Nat → Addr
  τ : Nat → List Addr
def CellR (K : PySem.W.Frag) (Z : Addr → Prop) (H : Hp) (a : Addr) : Cell → Prop
  | .dead => True
  | .lv ds => ¬ Z a ∧ ∃ xs, H a = some (.lst xs) ∧ Dens K Z H xs ds
  | .fz ds => Z a ∧ ∃ xs, H a = some (.lst xs) ∧ Dens K Z H xs ds
  | .lk ds => ¬ Z a ∧ ∃ xs, H a = some (.lst xs) ∧ Dens K Z H xs ds
  | .dv ds => ¬ Z a ∧ ∃ xs, H a = some (.dK xs) ∧ DKs K Z H xs ds
  | .tr _ => True
def Cell.open? : Cell → Option (List D)
  | .lv ds => some ds
  | .lk ds => some ds
  | .dv _ => some []
  | _ => none
/-- a cell whose object may change -/
def Cell.chg : Cell → Prop
  | .lv _ => True
  | .dv _ => True
  | _ => False
/-- the fields of an exception whose dict is dd -/
def ExF (K : PySem.W.Frag) (Z : Addr → Prop) (H : Hp) (dd : Option Addr) : List (Str × D) → Prop
  | [] => dd = none
  | (f, d) :: _ => ∃ da v, dd = some da ∧ H da = some (.xd [(f, v)]) ∧ Den K Z H v d
/-- an exception that is held -/
def ExV (K : PySem.W.Frag) (mg : Str → Option Value) (Z : Addr → Prop) (H : Hp) (v : V) (x : Ex) : Prop :=
  ∃ (a C : Addr) (oe : Obj) (φ : Heap → Prop), v = .ref a ∧ H a = some (.frz oe (.ext φ)) ∧ mg (Str.ofString x.cls) = some (.ref C) ∧ oe.cls = .ref C ∧ (∃ vs, oe.data = .fields vs) ∧ ExF K Z H oe.dict x.fs
theorem ExF.stay {K : PySem.W.Frag} {Z Z' : Addr → Prop} {H H' : Hp} (y : Stay Z H Z' H') {dd : Option Addr} : ∀ {fs : List (Str × D)}, ExF K Z H dd fs → ExF K Z' H' dd fs
  | [], h => h
  | (f, d) :: _, h => by
    obtain ⟨da, v, e1, e2, e3⟩ := h
    exact ⟨da, v, e1, y.x _ _ e2, Den.stay y e3⟩
theorem ExV.stay {K : PySem.W.Frag} {mg : Str → Option Value} {Z Z' : Addr → Prop} {H H' : Hp} (y : Stay Z H Z' H') {v : V} {x : Ex} (h : ExV K mg Z H v x) : ExV K mg Z' H' v x := by
  obtain ⟨a, C, oe, φ, e1, e2, e3, e4, e5, e6⟩ := h
  exact ⟨a, C, oe, φ, e1, y.f _ _ _ e2, e3, e4, e5, e6.stay y⟩
def RR (K : PySem.W.Frag) (mg : Str → Option Value) (w : Wd) (n : Nat) (H : Hp) (v : V) : R → Prop
  | .sh d => Den K w.Z H v d
  | .own c => v = .ref (w.ρ c) ∧ c < n
  | .ex x => ExV K mg w.Z H v x
/-- at sys.modules stands what is no list -/
def SM (K : PySem.W.Frag) (H : Hp) : Prop := (∃ u : Obj × (Heap → Prop), H sysModules = some (.frz u.1 (.ext u.2))) ∧ K.lookup sysModules = none
/-- what a cell owns as a tree -/
structure TrOk (K : PySem.W.Frag) (mg : Str → Option Value) (w : Wd) (s : S) (H : Hp) (i : Nat) (d : D) : Prop where
  ow : OwnV K mg H (.ref (w.ρ i)) d (w.τ i)
  nd : (w.τ i).Nodup
  nz : ∀ b ∈ w.τ i, ¬ w.Z b
  no : ∀ b ∈ w.τ i, ∀ (j : Nat) (x : Cell), s.ce[j]? = some x → x.open?.isSome = true → w.ρ j ≠ b
  nt : ∀ b ∈ w.τ i, ∀ (j : Nat) (e : D), s.ce[j]? = some (.tr e) → b ∈ w.τ j → j = i
/-- a place of a tree -/
def InT (w : Wd) (s : S) (b : Addr) : Prop := ∃ (i : Nat) (d : D), s.ce[i]? = some (.tr d) ∧ b ∈ w.τ i
structure StR (K : PySem.W.Frag) (mg : Str → Option Value) (w : Wd) (s : S) (σ : St) (H : Hp) : Prop where
  cl : ∀ (i : Nat) (c : Cell), s.ce[i]? = some c → CellR K w.Z H (w.ρ i) c
  inj : ∀ (i j : Nat) (x y : Cell), s.ce[i]? = some x → s.ce[j]? = some y → x.open?.isSome = true → y.open?.isSome = true → w.ρ i = w.ρ j → i = j
  sl : ∀ (i : Nat) (r : R), s.sl[i]? = some (some r) → ∃ v : V, σ[i]? = some (some v) ∧ RR K mg w s.ce.length H v r
  sn : s.sl.length ≤ σ.length
  zt : ∀ a, w.Z a → ∃ o, H a = some o
  sb : ∀ (i c : Nat), s.sl[i]? = some (some (.own c)) → c < s.np + s.sl.length
  bs : s.np + s.sl.length ≤ s.ce.length
  lb : ∀ (i : Nat) (ds : List D), s.ce[i]? = some (.lk ds) → i < s.np + s.sl.length
  sm : SM K H
  tt : ∀ (i : Nat) (d : D), s.ce[i]? = some (.tr d) → TrOk K mg w s H i d
theorem chg_open {x : Cell} (h : x.chg) : x.open?.isSome = true := by
  cases x <;> first | rfl | exact h.elim
def Live (w : Wd) (s : S) (a : Addr) : Prop := (∃ (i : Nat) (x : Cell), s.ce[i]? = some x ∧ x.chg ∧ w.ρ i = a) ∨ InT w s a
/-- from one state to a later one: p places of the cells keep their addresses -/
structure Ext (p : Nat) (w : Wd) (s : S) (H : Hp) (w' : Wd) (s' : S) (H' : Hp) : Prop where
  z : ∀ a, w.Z a → w'.Z a
  zn : ∀ a, w'.Z a → w.Z a ∨ H a = none ∨ Live w s a
  k : ∀ a o, H a = some o → ¬ Live w s a → H' a = some o
  lz : ∀ a, Live w' s' a → Live w s a ∨ H a = none
  pr : ∀ i, i < p → w'.ρ i = w.ρ i
  ln : p ≤ s'.ce.length
  lk : ∀ (i : Nat) (ds : List D), s.ce[i]? = some (.lk ds) → s'.ce[i]? = some (.lk ds) ∧ w'.ρ i = w.ρ i
  nq : s'.np = s.np
  sq : s'.sl.length = s.sl.length

section
variable {K : PySem.W.Frag} {mg : Str → Option Value} {w w' w₂ : Wd} {s s' s₂ : S} {H H' H₂ : Hp} {σ : St} {p q : Nat}
theorem Ext.refl (hp : p ≤ s.ce.length) : Ext p w s H w s H := ⟨fun _ h => h, fun _ h => .inl h, fun _ _ h _ => h, fun _ h => .inl h, fun _ _ => rfl, hp, fun _ _ h => ⟨h, rfl⟩, rfl, rfl⟩
theorem Ext.none_back (e : Ext p w s H w' s' H') {a : Addr} (h : H' a = none) : H a = none ∨ Live w s a := by
  cases q : H a with
  | none => exact .inl rfl
  | some o =>
    by_cases hl : Live w s a
    · exact .inr hl
    · rw [e.k a o q hl] at h; cases h
theorem Ext.trans (e : Ext p w s H w' s' H') (f : Ext q w' s' H' w₂ s₂ H₂) (hpq : p ≤ q) : Ext p w s H w₂ s₂ H₂ where
  z := fun a h => f.z a (e.z a h)
  zn := fun a h => by
    rcases f.zn a h with h | h | h
    · exact e.zn a h
    · rcases e.none_back h with h | h
      · exact .inr (.inl h)
      · exact .inr (.inr h)
    · rcases e.lz a h with h | h
      · exact .inr (.inr h)
      · exact .inr (.inl h)
  k := fun a o h hl => f.k a o (e.k a o h hl) fun h' => by
    rcases e.lz a h' with z | z
    · exact hl z
    · rw [h] at z; cases z
  lz := fun a h => by
    rcases f.lz a h with h | h
    · exact e.lz a h
    · rcases e.none_back h with h | h
      · exact .inr h
      · exact .inl h
  pr := fun i hi => (f.pr i (Nat.lt_of_lt_of_le hi hpq)).trans (e.pr i hi)
  ln := Nat.le_trans hpq f.ln
  lk := fun i ds h => by
    obtain ⟨h1, h2⟩ := e.lk i ds h
    obtain ⟨h3, h4⟩ := f.lk i ds h1
    exact ⟨h3, h4.trans h2⟩
  nq := f.nq.trans e.nq
  sq := f.sq.trans e.sq
theorem Ext.mono (e : Ext q w s H w' s' H') (h : p ≤ q) : Ext p w s H w' s' H' := ⟨e.z, e.zn, e.k, e.lz, fun i hi => e.pr i (Nat.lt_of_lt_of_le hi h), Nat.le_trans h e.ln, e.lk, e.nq, e.sq⟩
theorem StR.t_at (h : StR K mg w s σ H) {b : Addr} (t : InT w s b) : ∃ o, H b = some o ∧ MutO o := by
  obtain ⟨i, d, e, m⟩ := t
  exact (h.tt i d e).ow.at b m
theorem StR.t_nz (h : StR K mg w s σ H) {b : Addr} (t : InT w s b) : ¬ w.Z b := by
  obtain ⟨i, d, e, m⟩ := t
  exact (h.tt i d e).nz b m
theorem StR.t_no (h : StR K mg w s σ H) {b : Addr} (t : InT w s b) {j : Nat} {x : Cell} (ej : s.ce[j]? = some x) (o : x.open?.isSome = true) : w.ρ j ≠ b := by
  obtain ⟨i, d, e, m⟩ := t
  exact (h.tt i d e).no b m j x ej o
theorem StR.t_ne (h : StR K mg w s σ H) {b : Addr} (t : InT w s b) {a : Addr} (q : H a = none) : b ≠ a := fun e => by
  obtain ⟨o, z, _⟩ := h.t_at t
  rw [e, q] at z; cases z
theorem StR.notLive (h : StR K mg w s σ H) {a : Addr} (hz : w.Z a) : ¬ Live w s a := fun l => by
  rcases l with ⟨i, x, e, c, ea⟩ | l
  · have q := h.cl i _ e
    rw [ea] at q
    cases x with
    | lv _ => exact q.1 hz
    | dv _ => exact q.1 hz
    | _ => exact c
  · exact h.t_nz l hz
theorem StR.live_mut (h : StR K mg w s σ H) {a : Addr} (l : Live w s a) : (∃ xs, H a = some (.lst xs)) ∨ (∃ xs, H a = some (.dK xs)) ∨ ∃ C dx kvs, H a = some (.ins C dx kvs) := by
  rcases l with ⟨i, x, e, c, rfl⟩ | l
  · have q := h.cl i _ e
    cases x with
    | lv _ => exact .inl (let ⟨_, xs, q, _⟩ := q; ⟨xs, q⟩)
    | dv _ => exact .inr (.inl (let ⟨_, xs, q, _⟩ := q; ⟨xs, q⟩))
    | _ => exact c.elim
  · obtain ⟨o, q, m⟩ := h.t_at l
    rcases m with ⟨xs, rfl⟩ | ⟨C, dx, kvs, rfl⟩
    · exact .inl ⟨_, q⟩
    · exact .inr (.inr ⟨_, _, _, q⟩)
theorem StR.live_ne (h : StR K mg w s σ H) {a : Addr} {o : HO} (e : H a = some o) (h1 : ∀ xs, o ≠ .lst xs) (h2 : ∀ xs, o ≠ .dK xs) (h3 : ∀ C dx kvs, o ≠ .ins C dx kvs := by simp) : ¬ Live w s a := fun l => by
  rcases h.live_mut l with ⟨xs, q⟩ | ⟨xs, q⟩ | ⟨C, dx, kvs, q⟩
  · rw [e] at q; cases q; exact h1 _ rfl
  · rw [e] at q; cases q; exact h2 _ rfl
  · rw [e] at q; cases q; exact h3 _ _ _ rfl
/-- data stays true -/
theorem StR.stay (h : StR K mg w s σ H) (e : Ext p w s H w' s' H') : Stay w.Z H w'.Z H' where
  z := e.z
  l := fun a xs hz hl => e.k a _ hl (h.notLive hz)
  t := fun a xs ht => e.k a _ ht (h.live_ne ht (by simp) (by simp))
  f := fun a o u hf => e.k a _ hf (h.live_ne hf (by simp) (by simp))
  d := fun a u hz hf => e.k a _ hf (h.notLive hz)
  x := fun a u hf => e.k a _ hf (h.live_ne hf (by simp) (by simp))
/-- the trees stay -/
theorem StR.tr_keep (h : StR K mg w s σ H) (y : Stay w.Z H w'.Z H') (hc : ∀ (i : Nat) (d : D), s'.ce[i]? = some (.tr d) → s.ce[i]? = some (.tr d) ∧ w'.ρ i = w.ρ i ∧ w'.τ i = w.τ i) (hk : ∀ b, InT w s b → ∀ o, H b = some o → H' b = some o) (hz : ∀ b, InT w s b → w'.Z b → w.Z b)
    (ho : ∀ b, InT w s b → ∀ (j : Nat) (x : Cell), s'.ce[j]? = some x → x.open?.isSome = true → w'.ρ j = b → ∃ (j' : Nat) (x' : Cell), s.ce[j']? = some x' ∧ x'.open?.isSome = true ∧ w.ρ j' = b) : ∀ (i : Nat) (d : D), s'.ce[i]? = some (.tr d) → TrOk K mg w' s' H' i d := fun i d e => by
  obtain ⟨e0, r, t⟩ := hc i d e
  have T := h.tt i d e0
  have inT : ∀ b ∈ w'.τ i, InT w s b := fun b hb => ⟨i, d, e0, t ▸ hb⟩
  refine ⟨?_, t ▸ T.nd, fun b hb z => T.nz b (t ▸ hb) (hz b (inT b hb) z), fun b hb j x ej o q => ?_, fun b hb j e1 ej m => ?_⟩
  · rw [r, t]
    exact T.ow.stay (fun _ _ q => SqT.stay y q) fun b hb => hk b ⟨i, d, e0, hb⟩
  · obtain ⟨j', x', a1, a2, a3⟩ := ho b (inT b hb) j x ej o q
    exact T.no b (t ▸ hb) j' x' a1 a2 a3
  · obtain ⟨q0, _, q2⟩ := hc j e1 ej
    exact T.nt b (t ▸ hb) j e1 q0 (q2 ▸ m)
theorem RR.stay (h : StR K mg w s σ H) (e : Ext p w s H w' s' H') (hp : s.ce.length ≤ p) {v : V} : ∀ {r : R}, RR K mg w s.ce.length H v r → RR K mg w' s'.ce.length H' v r
  | .sh _, q => Den.stay (h.stay e) q
  | .ex _, q => ExV.stay (h.stay e) q
  | .own c, ⟨q, hc⟩ => ⟨by rw [e.pr c (Nat.lt_of_lt_of_le hc hp)]; exact q, Nat.lt_of_lt_of_le hc (Nat.le_trans hp e.ln)⟩
end
/-- several values -/
inductive RRs (K : PySem.W.Frag) (mg : Str → Option Value) (w : Wd) (n : Nat) (H : Hp) : List V → List R → Prop
  | nil : RRs K mg w n H [] []
  | cons {v : V} {vs : List V} {r : R} {rs : List R} : RR K mg w n H v r → RRs K mg w n H vs rs → RRs K mg w n H (v :: vs) (r :: rs)
section
variable {K : PySem.W.Frag} {mg : Str → Option Value} {w w' w₂ : Wd} {s s' s₂ : S} {H H' H₂ : Hp} {σ : St} {p q : Nat}
theorem RRs.stay (h : StR K mg w s σ H) (e : Ext p w s H w' s' H') (hp : s.ce.length ≤ p) : ∀ {vs : List V} {rs : List R}, RRs K mg w s.ce.length H vs rs → RRs K mg w' s'.ce.length H' vs rs
  | _, _, .nil => .nil
  | _, _, .cons a b => .cons (RR.stay h e hp a) (RRs.stay h e hp b)
theorem RRs.length {n : Nat} : ∀ {vs : List V} {rs : List R}, RRs K mg w n H vs rs → vs.length = rs.length
  | _, _, .nil => rfl
  | _, _, .cons _ b => by simp [RRs.length b]
theorem RRs.get {n : Nat} : ∀ {vs : List V} {rs : List R} {i : Nat} {r : R}, RRs K mg w n H vs rs → rs[i]? = some r → ∃ v, vs[i]? = some v ∧ RR K mg w n H v r
  | _, _, _, _, .nil, e => by simp at e
  | _, _, 0, _, .cons h _, e => by simp at e; subst e; exact ⟨_, rfl, h⟩
  | _, _, i + 1, r, .cons _ t, e => by
    obtain ⟨v, h1, h2⟩ := RRs.get (i := i) (r := r) t (by simpa using e)
    exact ⟨v, by simpa using h1, h2⟩
end
end E
/-! E1: what is wanted behind a piece; the steps of states. -/
namespace E
open PySem PySem.Spec PyProof.Rows L2

/-- an exception's class and dict -/
def ExR (K : PySem.W.Frag) (mg : Str → Option Value) (w : Wd) (H : Hp) (x : Ex) (cls : Value) (dd : Option Addr) : Prop :=
  ∃ C : Addr, cls = .ref C ∧ mg (Str.ofString x.cls) = some (.ref C) ∧ ExF K w.Z H dd x.fs
/-- behind a piece that leaves the slots: p places keep -/
def Post {α : Type} (K : PySem.W.Frag) (mg : Str → Option Value) (W : WX) (σ : St) (p : Nat) (w : Wd) (s : S) (H : Hp) (r : Res α) (Q : Wd → α → S → Hp → Prop) : Prop :=
  match r with
  | .ok a s' => ∀ w' H', StR K mg w' s' σ H' → Ext p w s H w' s' H' → Q w' a s' H'
  | .exc x s' => ∀ w' H' cls dd, StR K mg w' s' σ H' → Ext p w s H w' s' H' → ExR K mg w' H' x cls dd → W cls dd σ H'
  | .bad => False
section
variable {K : PySem.W.Frag} {mg : Str → Option Value} {W : WX} {w w' w₂ : Wd} {s s' s₂ : S} {H H' H₂ : Hp} {σ : St} {p q : Nat} {α β : Type}
theorem Post.mono {r : Res α} {Q Q' : Wd → α → S → Hp → Prop} (h : Post K mg W σ p w s H r Q) (f : ∀ w' a s' H', StR K mg w' s' σ H' → Ext p w s H w' s' H' → Q w' a s' H' → Q' w' a s' H') : Post K mg W σ p w s H r Q' := by
  cases r with
  | ok a s' => exact fun w' H' h1 h2 => f _ _ _ _ h1 h2 (h w' H' h1 h2)
  | exc x s' => exact h
  | bad => exact h
/-- the first part's wish -/
theorem Post.split {r : Res α} {g : α → S → Res β} {Q : Wd → β → S → Hp → Prop} (h : Post K mg W σ p w s H (r.bind g) Q) :
    Post K mg W σ p w s H r (fun w1 a s1 H1 => StR K mg w1 s1 σ H1 ∧ Ext p w s H w1 s1 H1 ∧ ∀ q, p ≤ q → Post K mg W σ q w1 s1 H1 (g a s1) Q) := by
  cases r with
  | ok a s1 =>
    intro w1 H1 h1 e1
    refine ⟨h1, e1, fun q hq => ?_⟩
    have h : Post K mg W σ p w s H (g a s1) Q := h
    revert h
    cases g a s1 with
    | ok b s2 => exact fun h w2 H2 h2 e2 => h w2 H2 h2 (e1.trans e2 hq)
    | exc x s2 => exact fun h w2 H2 cls dd h2 e2 => h w2 H2 cls dd h2 (e1.trans e2 hq)
    | bad => exact fun h => h
  | exc x s1 => exact h
  | bad => exact h
end
/-- an expression's value -/
def QV (K : PySem.W.Frag) (mg : Str → Option Value) (Q : VK) : Wd → R → S → Hp → Prop := fun w r s H => ∀ v, RR K mg w s.ce.length H v r → Q v H
def tE (K : PySem.W.Frag) (mg : Str → Option Value) (W : WX) (f : ES) : TE := fun σ H Q => ∃ w s, StR K mg w s σ H ∧ Post K mg W σ s.ce.length w s H (f s) (QV K mg Q)
def tT (K : PySem.W.Frag) (mg : Str → Option Value) (W : WX) (f : TS') : TT := fun σ H Q => ∃ w s, StR K mg w s σ H ∧ Post K mg W σ s.ce.length w s H (f s) (fun _ b _ H' => Q b H')
def tA (K : PySem.W.Frag) (mg : Str → Option Value) (W : WX) (f : AS) : TA := fun σ H Q => ∃ w s, StR K mg w s σ H ∧ Post K mg W σ s.ce.length w s H (f s) (fun w' rs s' H' => ∀ vs, RRs K mg w' s'.ce.length H' vs rs → Q vs H')
def SE (X : Cx) (W : WX) (e : Expr) (f : ES) : Prop := PE X e (tE X.K X.mg W f)
def ST (X : Cx) (W : WX) (e : Expr) (f : TS') : Prop := PT X e (tT X.K X.mg W f)
def SW (X : Cx) (W : WX) (e : Expr) (f : TS') : Prop := PW X e (tT X.K X.mg W f)
def SA (X : Cx) (W : WX) (es : List Expr) (f : AS) : Prop := PA X es (tA X.K X.mg W f)

/-! ### reading a value -/
def S.cellAt (s : S) (c : Nat) : Cell := (s.ce[c]?).getD .dead
/-- the data that a value holds now -/
def S.look (s : S) : R → Option D
  | .sh d => some d
  | .own c => match s.cellAt c with
    | .lv ds => some (.list ds)
    | .fz ds => some (.list ds)
    | .lk ds => some (.list ds)
    | .dead => none
    | .dv _ => none
    | .tr _ => none
  | .ex _ => none
/-- data, its uppermost list perhaps open -/
def DL (K : PySem.W.Frag) (Z : Addr → Prop) (H : Hp) (v : V) (d : D) : Prop :=
  Den K Z H v d ∨ ∃ a xs ds, v = .ref a ∧ d = .list ds ∧ H a = some (.lst xs) ∧ Dens K Z H xs ds
section
variable {K : PySem.W.Frag} {mg : Str → Option Value} {W : WX} {w w' w₂ : Wd} {s s' s₂ : S} {H H' H₂ : Hp} {σ : St} {p q : Nat} {Z : Addr → Prop}
theorem S.cellAt_some {c : Nat} {x : Cell} (h : s.cellAt c = x) (hx : x ≠ .dead) : s.ce[c]? = some x := by
  unfold S.cellAt at h
  cases e : s.ce[c]? with
  | none => rw [e] at h; exact absurd h.symm hx
  | some y => rw [e] at h; exact congrArg some h
theorem look_own {c : Nat} {d : D} (h : s.look (.own c) = some d) : ∃ ds, d = .list ds ∧ (s.ce[c]? = some (.lv ds) ∨ s.ce[c]? = some (.fz ds) ∨ s.ce[c]? = some (.lk ds)) := by
  unfold S.look at h
  cases e : s.cellAt c with
  | dead => simp only [e] at h; cases h
  | dv _ => simp only [e] at h; cases h
  | tr _ => simp only [e] at h; cases h
  | lv ds => simp only [e] at h; exact ⟨ds, (Option.some.inj h).symm, .inl (S.cellAt_some e (by simp))⟩
  | fz ds => simp only [e] at h; exact ⟨ds, (Option.some.inj h).symm, .inr (.inl (S.cellAt_some e (by simp)))⟩
  | lk ds => simp only [e] at h; exact ⟨ds, (Option.some.inj h).symm, .inr (.inr (S.cellAt_some e (by simp)))⟩
theorem look_ok (h : StR K mg w s σ H) {r : R} {d : D} {v : V} (hl : s.look r = some d) (hr : RR K mg w s.ce.length H v r) : DL K w.Z H v d := by
  cases r with
  | sh e =>
    have : e = d := Option.some.inj hl
    subst this
    exact .inl hr
  | ex x => cases hl
  | own c =>
    obtain ⟨ds, rfl, e⟩ := look_own hl
    obtain ⟨rfl, _⟩ := hr
    refine .inr ?_
    rcases e with e | e | e
    · obtain ⟨_, xs, q, z⟩ := h.cl c _ e
      exact ⟨_, xs, ds, rfl, rfl, q, z⟩
    · obtain ⟨_, xs, q, z⟩ := h.cl c _ e
      exact ⟨_, xs, ds, rfl, rfl, q, z⟩
    · obtain ⟨_, xs, q, z⟩ := h.cl c _ e
      exact ⟨_, xs, ds, rfl, rfl, q, z⟩
theorem DL.dp {v : V} {d : D} (h : DL K Z H v d) (n : d.hasDict = false) : Dp K H v d := by
  rcases h with h | ⟨a, xs, ds, rfl, rfl, q, z⟩
  · exact h.dp n
  · exact .lst (SqL.of q) (z.dp (by unfold PyData.hasDict at n; exact n))
theorem DL.dict {v : V} {ds : List (D × D)} (h : DL K Z H v (.dict ds)) : ∃ a kvs, v = .ref a ∧ (Z a ∧ H a = some (.dK kvs)) ∧ DKv K Z H kvs ds := by
  rcases h with h | ⟨a, xs, ds', rfl, e, q, z⟩
  · cases h with
    | dic h1 h2 => exact ⟨_, _, rfl, h1, h2⟩
  · cases e
theorem DL.list {v : V} {ds : List D} (h : DL K Z H v (.list ds)) : ∃ a xs, v = .ref a ∧ LstA K H a xs ∧ Dens K Z H xs ds := by
  rcases h with h | ⟨a, xs, ds', rfl, e, q, z⟩
  · cases h with
    | lst h1 h2 => exact ⟨_, _, rfl, h1.any, h2⟩
  · cases e
    exact ⟨_, _, rfl, .inl q, z⟩
theorem DL.tup {v : V} {ds : List D} (h : DL K Z H v (.tuple ds)) : ∃ a xs, v = .ref a ∧ SqT K H a xs ∧ Dens K Z H xs ds := by
  rcases h with h | ⟨a, xs, ds', rfl, e, q, z⟩
  · cases h with
    | tup h1 h2 => exact ⟨_, _, rfl, h1, h2⟩
  · cases e
theorem DL.int {v : V} {i : Int} (h : DL K Z H v (.int i)) : v = .int i := by
  rcases h with h | ⟨a, xs, ds', rfl, e, q, z⟩
  · cases h; rfl
  · cases e
theorem DL.bool {v : V} {i : Bool} (h : DL K Z H v (.bool i)) : v = .bl i := by
  rcases h with h | ⟨a, xs, ds', rfl, e, q, z⟩
  · cases h; rfl
  · cases e
theorem DL.str {v : V} {i : Str} (h : DL K Z H v (.str i)) : v = .str i := by
  rcases h with h | ⟨a, xs, ds', rfl, e, q, z⟩
  · cases h; rfl
  · cases e
theorem DL.none {v : V} (h : DL K Z H v .none) : v = .non := by
  rcases h with h | ⟨a, xs, ds', rfl, e, q, z⟩
  · cases h; rfl
  · cases e
end

/-! ### the steps -/
def S.push (s : S) (c : Cell) : S := { s with ce := s.ce ++ [c] }
def S.put (s : S) (i : Nat) (c : Cell) : S := { s with ce := s.ce.set i c }
def Wd.at (w : Wd) (n : Nat) (a : Addr) : Wd := { w with ρ := fun i => if i = n then a else w.ρ i }
section
variable {K : PySem.W.Frag} {mg : Str → Option Value} {W : WX} {w w' w₂ : Wd} {s s' s₂ : S} {H H' H₂ : Hp} {σ : St} {p q : Nat} {Z Z' : Addr → Prop}
theorem stay_upd {a : Addr} {o : HO} (hn : H a = none) : Stay Z H Z (upd H a o) :=
  ⟨fun _ h => h, fun b xs _ h => by rw [upd_ne (ne_of_none h hn)]; exact h, fun b xs h => by rw [upd_ne (ne_of_none h hn)]; exact h, fun b o u h => by rw [upd_ne (ne_of_none h hn)]; exact h, fun b u _ h => by rw [upd_ne (ne_of_none h hn)]; exact h, fun b u h => by rw [upd_ne (ne_of_none h hn)]; exact h⟩
def Cell.act : Cell → Prop
  | .dead => False
  | .tr _ => False
  | _ => True
theorem CellR.stay (y : Stay Z H Z' H') {a : Addr} {c : Cell} (h : CellR K Z H a c) (hz : c.open?.isSome = true → Z' a → Z a) (hk : c.act → ∀ o, H a = some o → H' a = some o) : CellR K Z' H' a c := by
  cases c with
  | dead => trivial
  | tr _ => trivial
  | lv ds => obtain ⟨h1, xs, h2, h3⟩ := h; exact ⟨fun z => h1 (hz rfl z), xs, hk trivial _ h2, Dens.stay y h3⟩
  | lk ds => obtain ⟨h1, xs, h2, h3⟩ := h; exact ⟨fun z => h1 (hz rfl z), xs, hk trivial _ h2, Dens.stay y h3⟩
  | fz ds => obtain ⟨h1, xs, h2, h3⟩ := h; exact ⟨y.z _ h1, xs, hk trivial _ h2, Dens.stay y h3⟩
  | dv ds => obtain ⟨h1, xs, h2, h3⟩ := h; exact ⟨fun z => h1 (hz rfl z), xs, hk trivial _ h2, DKs.stay y h3⟩
def Cell.nt : Cell → Bool
  | .tr _ => false
  | _ => true
theorem lz2 {P : Prop} {b : Addr} (h1 : ∀ (i : Nat) (x : Cell), s.ce[i]? = some x → x.chg → w.ρ i = b → P) (h2 : InT w s b → P) : Live w s b → P := fun l => by
  rcases l with ⟨i, x, a, c, d⟩ | l
  · exact h1 i x a c d
  · exact h2 l
/-- something new is laid that is no cell -/
theorem StR.lay (h : StR K mg w s σ H) {a : Addr} {o : HO} (hn : H a = none) : StR K mg w s σ (upd H a o) where
  cl := fun i c e => (h.cl i c e).stay (stay_upd hn) (fun _ z => z) fun _ xs q => by rw [upd_ne (ne_of_none q hn)]; exact q
  inj := h.inj
  sl := fun i r e => by
    obtain ⟨v, e1, e2⟩ := h.sl i r e
    refine ⟨v, e1, ?_⟩
    cases r with
    | sh d => exact Den.stay (stay_upd hn) e2
    | ex _ => exact ExV.stay (stay_upd hn) e2
    | own c => exact e2
  sn := h.sn
  zt := fun b hz => by
    obtain ⟨xs, q⟩ := h.zt b hz
    exact ⟨xs, by rw [upd_ne (ne_of_none q hn)]; exact q⟩
  sb := h.sb
  bs := h.bs
  lb := h.lb
  sm := ⟨h.sm.1.imp fun φ q => by rw [upd_ne (ne_of_none q hn)]; exact q, h.sm.2⟩
  tt := h.tr_keep (stay_upd hn) (fun _ _ e => ⟨e, rfl, rfl⟩) (fun b t o q => by rw [upd_ne (h.t_ne t hn)]; exact q) (fun _ _ z => z) fun b _ j x e o q => ⟨j, x, e, o, q⟩
theorem Ext.lay {a : Addr} {o : HO} (hn : H a = none) (hp : p ≤ s.ce.length) : Ext p w s H w s (upd H a o) :=
  ⟨fun _ h => h, fun _ h => .inl h, fun b u h _ => by rw [upd_ne (ne_of_none h hn)]; exact h, fun _ h => .inl h, fun _ _ => rfl, hp, fun _ _ h => ⟨h, rfl⟩, rfl, rfl⟩
theorem push_get {c x : Cell} {i : Nat} (e : (s.push c).ce[i]? = some x) : (i < s.ce.length ∧ s.ce[i]? = some x) ∨ (i = s.ce.length ∧ x = c) := by
  have e' : (s.ce ++ [c])[i]? = some x := e
  by_cases hi : i < s.ce.length
  · rw [List.getElem?_append_left hi] at e'
    exact .inl ⟨hi, e'⟩
  · rw [List.getElem?_append_right (Nat.le_of_not_lt hi)] at e'
    have z0 : i - s.ce.length = 0 := by
      cases z : i - s.ce.length with
      | zero => rfl
      | succ n => rw [z] at e'; simp at e'
    rw [z0] at e'
    simp at e'
    exact .inr ⟨by omega, e'.symm⟩
theorem push_len {c : Cell} : (s.push c).ce.length = s.ce.length + 1 := by
  show (s.ce ++ [c]).length = _
  simp
theorem push_tr {c : Cell} (hc : c.nt = true) {i : Nat} {d : D} (e : (s.push c).ce[i]? = some (.tr d)) : s.ce[i]? = some (.tr d) ∧ i < s.ce.length := by
  rcases push_get e with ⟨h, e⟩ | ⟨_, e⟩
  · exact ⟨e, h⟩
  · rw [← e] at hc; cases hc
theorem inT_push {c : Cell} (hc : c.nt = true) {b : Addr} : InT w (s.push c) b → InT w s b := fun ⟨i, d, e, m⟩ => ⟨i, d, (push_tr hc e).1, m⟩
theorem StR.open_lst (h : StR K mg w s σ H) {i : Nat} {x : Cell} (e : s.ce[i]? = some x) (ho : x.open?.isSome = true) : ∃ o, H (w.ρ i) = some o := by
  have q := h.cl i x e
  cases x with
  | dead => cases ho
  | tr _ => cases ho
  | fz ds => cases ho
  | lv ds => obtain ⟨_, xs, q, _⟩ := q; exact ⟨_, q⟩
  | lk ds => obtain ⟨_, xs, q, _⟩ := q; exact ⟨_, q⟩
  | dv ds => obtain ⟨_, xs, q, _⟩ := q; exact ⟨_, q⟩
/-- a new list in a new cell -/
theorem StR.new (h : StR K mg w s σ H) {a : Addr} {xs : List V} {ds : List D} (hn : H a = none) (hd : Dens K w.Z H xs ds) :
    StR K mg (w.at s.ce.length a) (s.push (.lv ds)) σ (upd H a (.lst xs)) ∧ Ext s.ce.length w s H (w.at s.ce.length a) (s.push (.lv ds)) (upd H a (.lst xs)) ∧
      RR K mg (w.at s.ce.length a) (s.push (.lv ds)).ce.length (upd H a (.lst xs)) (.ref a) (.own s.ce.length) := by
  have hza : ¬ w.Z a := fun z => by
    obtain ⟨ys, q⟩ := h.zt a z
    rw [hn] at q; cases q
  have same : ∀ i, i < s.ce.length → (w.at s.ce.length a).ρ i = w.ρ i := fun i hi => if_neg (Nat.ne_of_lt hi)
  have last : (w.at s.ce.length a).ρ s.ce.length = a := if_pos rfl
  have nl : ∀ (i : Nat) (x : Cell), s.ce[i]? = some x → x.open?.isSome = true → w.ρ i ≠ a := fun i x e ho z => by
    obtain ⟨ys, q⟩ := h.open_lst e ho
    rw [z, hn] at q; cases q
  refine ⟨⟨fun i c e => ?_, fun i j x y e1 e2 o1 o2 e3 => ?_, fun i r e => ?_, h.sn, fun b hz => ?_, h.sb, by rw [push_len]; have := h.bs; show s.np + s.sl.length ≤ _; omega, fun i ds' e => by
    rcases push_get e with ⟨_, e'⟩ | ⟨_, z⟩
    · exact h.lb i ds' e'
    · exact (nomatch z), ⟨h.sm.1.imp fun φ q => by rw [upd_ne (ne_of_none q hn)]; exact q, h.sm.2⟩,
      h.tr_keep (w' := w.at s.ce.length a) (stay_upd hn) (fun i d e => by obtain ⟨e, hi⟩ := push_tr rfl e; exact ⟨e, same i hi, rfl⟩) (fun b t o q => by rw [upd_ne (h.t_ne t hn)]; exact q) (fun _ _ z => z) fun b t j x e o q => by
        rcases push_get e with ⟨hj, e⟩ | ⟨rfl, _⟩
        · exact ⟨j, x, e, o, by rw [← same j hj]; exact q⟩
        · rw [last] at q; exact absurd q.symm (h.t_ne t hn)⟩, ⟨fun _ z => z, fun _ z => .inl z, fun b o q _ => by rw [upd_ne (ne_of_none q hn)]; exact q, fun b => lz2 (fun i x e cx eb => ?_) (fun t => .inl (.inr (inT_push rfl t))), same, by rw [push_len]; omega, fun i ds' e => ?_, rfl, rfl⟩, ⟨by rw [last], by rw [push_len]; omega⟩⟩
  · rcases push_get e with ⟨hi, e'⟩ | ⟨rfl, rfl⟩
    · rw [same i hi]
      exact ((h.lay hn).cl i c e' : CellR K w.Z (upd H a (.lst xs)) (w.ρ i) c)
    · rw [last]
      exact ⟨hza, xs, upd_same, Dens.stay (stay_upd hn) hd⟩
  · rcases push_get e1 with ⟨hi, e1'⟩ | ⟨rfl, _⟩
    · rcases push_get e2 with ⟨hj, e2'⟩ | ⟨rfl, _⟩
      · rw [same i hi, same j hj] at e3
        exact h.inj i j _ _ e1' e2' o1 o2 e3
      · rw [same i hi, last] at e3
        exact absurd e3 (nl i _ e1' o1)
    · rcases push_get e2 with ⟨hj, e2'⟩ | ⟨rfl, _⟩
      · rw [same j hj, last] at e3
        exact absurd e3.symm (nl j _ e2' o2)
      · rfl
  · obtain ⟨v, e1, e2⟩ := h.sl i r e
    refine ⟨v, e1, ?_⟩
    cases r with
    | sh d => exact Den.stay (stay_upd hn) e2
    | ex _ => exact ExV.stay (stay_upd hn) e2
    | own c =>
      obtain ⟨q, hc⟩ := e2
      refine ⟨by rw [same c hc]; exact q, ?_⟩
      rw [push_len]; omega
  · obtain ⟨ys, q⟩ := h.zt b hz
    exact ⟨ys, by rw [upd_ne (ne_of_none q hn)]; exact q⟩
  · rcases push_get e with ⟨hi, e'⟩ | ⟨rfl, _⟩
    · rw [same i hi] at eb
      exact .inl (.inl ⟨i, x, e', cx, eb⟩)
    · rw [last] at eb
      exact .inr (eb ▸ hn)
  · have hi : i < s.ce.length := (List.getElem?_eq_some_iff.mp e).1
    exact ⟨(List.getElem?_append_left hi).trans e, same i hi⟩
theorem put_get {i j : Nat} {c x : Cell} (e : (s.put i c).ce[j]? = some x) : (j = i ∧ x = c ∧ i < s.ce.length) ∨ (j ≠ i ∧ s.ce[j]? = some x) := by
  have e' : (s.ce.set i c)[j]? = some x := e
  by_cases hj : i = j
  · subst hj
    by_cases hi : i < s.ce.length
    · rw [List.getElem?_set_self hi] at e'
      exact .inl ⟨rfl, (Option.some.inj e').symm, hi⟩
    · rw [List.getElem?_eq_none (by simpa using hi)] at e'; cases e'
  · rw [List.getElem?_set_ne hj] at e'
    exact .inr ⟨Ne.symm hj, e'⟩
theorem put_tr {j : Nat} {c : Cell} (hc : c.nt = true) {i : Nat} {d : D} (e : (s.put j c).ce[i]? = some (.tr d)) : s.ce[i]? = some (.tr d) ∧ i ≠ j := by
  rcases put_get e with ⟨_, e, _⟩ | ⟨h, e⟩
  · rw [← e] at hc; cases hc
  · exact ⟨e, h⟩
theorem inT_put {j : Nat} {c : Cell} (hc : c.nt = true) {b : Addr} : InT w (s.put j c) b → InT w s b := fun ⟨i, d, e, m⟩ => ⟨i, d, (put_tr hc e).1, m⟩
theorem put_len {i : Nat} {c : Cell} : (s.put i c).ce.length = s.ce.length := by
  show (s.ce.set i c).length = _
  simp
theorem put_other {i j : Nat} {c x : Cell} (hne : j ≠ i) (e : s.ce[j]? = some x) : (s.put i c).ce[j]? = some x := by
  show (s.ce.set i c)[j]? = some x
  rw [List.getElem?_set_ne (Ne.symm hne)]
  exact e
/-- the list in a cell is changed -/
theorem StR.write (h : StR K mg w s σ H) {c : Nat} {ds ds' : List D} {xs : List V} (hc : s.ce[c]? = some (.lv ds)) (hd : Dens K w.Z H xs ds') :
    StR K mg w (s.put c (.lv ds')) σ (upd H (w.ρ c) (.lst xs)) ∧ Ext s.ce.length w s H w (s.put c (.lv ds')) (upd H (w.ρ c) (.lst xs)) := by
  obtain ⟨hz, ys, hH, _⟩ := h.cl c _ hc
  have hz : ¬ w.Z (w.ρ c) := hz
  have hlc : Live w s (w.ρ c) := .inl ⟨c, _, hc, trivial, rfl⟩
  have y : Stay w.Z H w.Z (upd H (w.ρ c) (.lst xs)) := by
    refine ⟨fun _ q => q, fun b zs hb q => ?_, fun b zs q => ?_, fun b o u q => ?_, fun b u hb q => ?_, fun b u q => ?_⟩
    · rw [upd_ne (fun e : b = w.ρ c => hz (by rw [← e]; exact hb))]; exact q
    · rw [upd_ne (ne_of q hH (by simp))]; exact q
    · rw [upd_ne (ne_of q hH (by simp))]; exact q
    · rw [upd_ne (ne_of q hH (by simp))]; exact q
    · rw [upd_ne (ne_of q hH (by simp))]; exact q
  refine ⟨⟨fun i x e => ?_, fun i j x y e1 e2 o1 o2 e3 => ?_, fun i r e => ?_, h.sn, fun b hb => ?_, h.sb, by rw [put_len]; exact h.bs, fun i ds'' e => by
    rcases put_get e with ⟨_, z, _⟩ | ⟨_, e'⟩
    · cases z
    · exact h.lb i ds'' e', ⟨h.sm.1.imp fun φ q => by rw [upd_ne (ne_of q hH (by simp))]; exact q, h.sm.2⟩,
      h.tr_keep y (fun i d e => ⟨(put_tr rfl e).1, rfl, rfl⟩) (fun b t o q => by rw [upd_ne fun z => h.t_no t hc rfl z.symm]; exact q) (fun _ _ z => z) fun b t j x e o q => by
        rcases put_get e with ⟨rfl, rfl, _⟩ | ⟨_, e⟩
        · exact ⟨_, _, hc, rfl, q⟩
        · exact ⟨j, x, e, o, q⟩⟩, ⟨fun _ q => q, fun _ q => .inl q, fun b o q hl => ?_, fun b => lz2 (fun i x e cx eb => ?_) (fun t => .inl (.inr (inT_put rfl t))), fun _ _ => rfl, by rw [put_len]; exact Nat.le_refl _, fun i ds'' e => ⟨put_other (fun z => by subst z; rw [hc] at e; cases e) e, rfl⟩, rfl, rfl⟩⟩
  · rcases put_get e with ⟨rfl, rfl, _⟩ | ⟨hne, e'⟩
    · exact ⟨hz, xs, upd_same, Dens.stay y hd⟩
    · refine (h.cl i x e').stay y (fun _ q => q) fun hx zs q => ?_
      cases x with
      | dead => exact hx.elim
      | tr d => exact hx.elim
      | lv zs' => rw [upd_ne (fun z => hne (h.inj i c _ _ e' hc rfl rfl z))]; exact q
      | lk zs' => rw [upd_ne (fun z => hne (h.inj i c _ _ e' hc rfl rfl z))]; exact q
      | dv zs' => rw [upd_ne (fun z => hne (h.inj i c _ _ e' hc rfl rfl z))]; exact q
      | fz zs' => rw [upd_ne (fun z : w.ρ i = w.ρ c => hz (by rw [← z]; exact (h.cl i _ e').1))]; exact q
  · rcases put_get e1 with ⟨rfl, _, _⟩ | ⟨h1, e1'⟩
    · rcases put_get e2 with ⟨rfl, _, _⟩ | ⟨h2, e2'⟩
      · rfl
      · exact h.inj i j _ _ hc e2' rfl o2 e3
    · rcases put_get e2 with ⟨rfl, _, _⟩ | ⟨h2, e2'⟩
      · exact h.inj i j _ _ e1' hc o1 rfl e3
      · exact h.inj i j _ _ e1' e2' o1 o2 e3
  · obtain ⟨v, e1, e2⟩ := h.sl i r e
    refine ⟨v, e1, ?_⟩
    cases r with
    | sh d => exact Den.stay y e2
    | ex _ => exact ExV.stay y e2
    | own c' =>
      obtain ⟨q, hc'⟩ := e2
      exact ⟨q, by rw [put_len]; exact hc'⟩
  · obtain ⟨zs, q⟩ := h.zt b hb
    exact ⟨zs, by rw [upd_ne (fun e : b = w.ρ c => hz (by rw [← e]; exact hb))]; exact q⟩
  · rw [upd_ne (fun e : b = w.ρ c => hl (by rw [e]; exact hlc))]; exact q
  · rcases put_get e with ⟨rfl, _, _⟩ | ⟨h1, e'⟩
    · exact .inl (.inl ⟨_, _, hc, trivial, eb⟩)
    · exact .inl (.inl ⟨i, x, e', cx, eb⟩)
/-- a cell's list is fixed -/
def Wd.fix (w : Wd) (a : Addr) : Wd := { w with Z := fun b => w.Z b ∨ b = a }
theorem StR.fix (h : StR K mg w s σ H) {c : Nat} {ds : List D} (hc : s.ce[c]? = some (.lv ds)) :
    StR K mg (w.fix (w.ρ c)) (s.put c (.fz ds)) σ H ∧ Ext s.ce.length w s H (w.fix (w.ρ c)) (s.put c (.fz ds)) H ∧ Den K (w.fix (w.ρ c)).Z H (.ref (w.ρ c)) (.list ds) := by
  obtain ⟨hz, ys, hH, hd⟩ := h.cl c _ hc
  have y : Stay w.Z H (w.fix (w.ρ c)).Z H := ⟨fun _ q => .inl q, fun _ _ _ q => q, fun _ _ q => q, fun _ _ _ q => q, fun _ _ _ q => q, fun _ _ q => q⟩
  have lc : (w.fix (w.ρ c)).Z (w.ρ c) := .inr rfl
  refine ⟨⟨fun i x e => ?_, fun i j x y e1 e2 o1 o2 e3 => ?_, fun i r e => ?_, h.sn, fun b hb => ?_, h.sb, by rw [put_len]; exact h.bs, fun i ds'' e => by
    rcases put_get e with ⟨_, z, _⟩ | ⟨_, e'⟩
    · cases z
    · exact h.lb i ds'' e', h.sm,
      h.tr_keep (w' := w.fix (w.ρ c)) y (fun i d e => ⟨(put_tr rfl e).1, rfl, rfl⟩) (fun b t o q => q) (fun b t z => z.elim id fun z => absurd z.symm (h.t_no t hc rfl)) fun b t j x e o q => by
        rcases put_get e with ⟨_, rfl, _⟩ | ⟨_, e⟩
        · cases o
        · exact ⟨j, x, e, o, q⟩⟩, ⟨fun _ q => .inl q, fun b q => ?_, fun b o q hl => q, fun b => lz2 (fun i x e cx eb => ?_) (fun t => .inl (.inr (inT_put rfl t))), fun _ _ => rfl, by rw [put_len]; exact Nat.le_refl _, fun i ds'' e => ⟨put_other (fun z => by subst z; rw [hc] at e; cases e) e, rfl⟩, rfl, rfl⟩, .lst (.inl ⟨lc, hH⟩) (Dens.stay y hd)⟩
  · rcases put_get e with ⟨rfl, rfl, _⟩ | ⟨hne, e'⟩
    · exact ⟨lc, ys, hH, Dens.stay y hd⟩
    · refine (h.cl i x e').stay y (fun ho q => ?_) fun _ zs q => q
      rcases q with q | q
      · exact q
      · exact absurd (h.inj i c _ _ e' hc ho rfl q) hne
  · rcases put_get e1 with ⟨_, z, _⟩ | ⟨h1, e1'⟩
    · subst z; cases o1
    · rcases put_get e2 with ⟨_, z, _⟩ | ⟨h2, e2'⟩
      · subst z; cases o2
      · exact h.inj i j _ _ e1' e2' o1 o2 e3
  · obtain ⟨v, e1, e2⟩ := h.sl i r e
    refine ⟨v, e1, ?_⟩
    cases r with
    | sh d => exact Den.stay y e2
    | ex _ => exact ExV.stay y e2
    | own c' =>
      obtain ⟨q, hc'⟩ := e2
      exact ⟨q, by rw [put_len]; exact hc'⟩
  · rcases hb with hb | rfl
    · exact h.zt b hb
    · exact ⟨_, hH⟩
  · rcases q with q | rfl
    · exact .inl q
    · exact .inr (.inr (.inl ⟨_, _, hc, trivial, rfl⟩))
  · rcases put_get e with ⟨_, z, _⟩ | ⟨h1, e'⟩
    · subst z; exact cx.elim
    · exact .inl (.inl ⟨i, x, e', cx, eb⟩)
theorem StR.fixD (h : StR K mg w s σ H) {c : Nat} {ds : List (Key × D)} (hc : s.ce[c]? = some (.dv ds)) :
    StR K mg (w.fix (w.ρ c)) (s.put c .dead) σ H ∧ Ext s.ce.length w s H (w.fix (w.ρ c)) (s.put c .dead) H ∧ Den K (w.fix (w.ρ c)).Z H (.ref (w.ρ c)) (.dict (ds.map fun p => (keyD p.1, p.2))) := by
  obtain ⟨hz, ys, hH, hd⟩ := h.cl c _ hc
  have y : Stay w.Z H (w.fix (w.ρ c)).Z H := ⟨fun _ q => .inl q, fun _ _ _ q => q, fun _ _ q => q, fun _ _ _ q => q, fun _ _ _ q => q, fun _ _ q => q⟩
  have lc : (w.fix (w.ρ c)).Z (w.ρ c) := .inr rfl
  refine ⟨⟨fun i x e => ?_, fun i j x y e1 e2 o1 o2 e3 => ?_, fun i r e => ?_, h.sn, fun b hb => ?_, h.sb, by rw [put_len]; exact h.bs, fun i ds'' e => by
    rcases put_get e with ⟨_, z, _⟩ | ⟨_, e'⟩
    · cases z
    · exact h.lb i ds'' e', h.sm,
      h.tr_keep (w' := w.fix (w.ρ c)) y (fun i d e => ⟨(put_tr rfl e).1, rfl, rfl⟩) (fun b t o q => q) (fun b t z => z.elim id fun z => absurd z.symm (h.t_no t hc rfl)) fun b t j x e o q => by
        rcases put_get e with ⟨_, rfl, _⟩ | ⟨_, e⟩
        · cases o
        · exact ⟨j, x, e, o, q⟩⟩, ⟨fun _ q => .inl q, fun b q => ?_, fun b o q hl => q, fun b => lz2 (fun i x e cx eb => ?_) (fun t => .inl (.inr (inT_put rfl t))), fun _ _ => rfl, by rw [put_len]; exact Nat.le_refl _, fun i ds'' e => ⟨put_other (fun z => by subst z; rw [hc] at e; cases e) e, rfl⟩, rfl, rfl⟩, .dic ⟨lc, hH⟩ (DKs.stay y hd).kv⟩
  · rcases put_get e with ⟨rfl, rfl, _⟩ | ⟨hne, e'⟩
    · trivial
    · refine (h.cl i x e').stay y (fun ho q => ?_) fun _ zs q => q
      rcases q with q | q
      · exact q
      · exact absurd (h.inj i c _ _ e' hc ho rfl q) hne
  · rcases put_get e1 with ⟨_, z, _⟩ | ⟨h1, e1'⟩
    · subst z; cases o1
    · rcases put_get e2 with ⟨_, z, _⟩ | ⟨h2, e2'⟩
      · subst z; cases o2
      · exact h.inj i j _ _ e1' e2' o1 o2 e3
  · obtain ⟨v, e1, e2⟩ := h.sl i r e
    refine ⟨v, e1, ?_⟩
    cases r with
    | sh d => exact Den.stay y e2
    | ex _ => exact ExV.stay y e2
    | own c' =>
      obtain ⟨q, hc'⟩ := e2
      exact ⟨q, by rw [put_len]; exact hc'⟩
  · rcases hb with hb | rfl
    · exact h.zt b hb
    · exact ⟨_, hH⟩
  · rcases q with q | rfl
    · exact .inl q
    · exact .inr (.inr (.inl ⟨_, _, hc, trivial, rfl⟩))
  · rcases put_get e with ⟨_, z, _⟩ | ⟨h1, e'⟩
    · subst z; exact cx.elim
    · exact .inl (.inl ⟨i, x, e', cx, eb⟩)
/-- a tree is fixed -/
def Wd.fixT (w : Wd) (c : Nat) : Wd := { w with Z := fun b => w.Z b ∨ b ∈ w.τ c }
theorem StR.fixT (h : StR K mg w s σ H) {c : Nat} {d : D} (hc : s.ce[c]? = some (.tr d)) (nd : d.hasDict = false) :
    StR K mg (w.fixT c) (s.put c .dead) σ H ∧ Ext s.ce.length w s H (w.fixT c) (s.put c .dead) H ∧ Den K (w.fixT c).Z H (.ref (w.ρ c)) d := by
  have T := h.tt c d hc
  have y : Stay w.Z H (w.fixT c).Z H := ⟨fun _ q => .inl q, fun _ _ _ q => q, fun _ _ q => q, fun _ _ _ q => q, fun _ _ _ q => q, fun _ _ q => q⟩
  refine ⟨⟨fun i x e => ?_, fun i j x y e1 e2 o1 o2 e3 => ?_, fun i r e => ?_, h.sn, fun b hb => ?_, h.sb, by rw [put_len]; exact h.bs, fun i ds'' e => by
    rcases put_get e with ⟨_, z, _⟩ | ⟨_, e'⟩
    · cases z
    · exact h.lb i ds'' e', h.sm, fun i e0 e => ?_⟩, ⟨fun _ q => .inl q, fun b q => ?_, fun b o q hl => q, fun b => lz2 (fun i x e cx eb => ?_) (fun t => .inl (.inr (inT_put rfl t))), fun _ _ => rfl, by rw [put_len]; exact Nat.le_refl _, fun i ds'' e => ⟨put_other (fun z => by subst z; rw [hc] at e; cases e) e, rfl⟩, rfl, rfl⟩, T.ow.den nd fun b hb => .inr hb⟩
  · rcases put_get e with ⟨rfl, rfl, _⟩ | ⟨hne, e'⟩
    · trivial
    · refine (h.cl i x e').stay y (fun ho q => ?_) fun _ zs q => q
      rcases q with q | q
      · exact q
      · exact absurd rfl (T.no _ q i x e' ho)
  · rcases put_get e1 with ⟨_, z, _⟩ | ⟨h1, e1'⟩
    · subst z; cases o1
    · rcases put_get e2 with ⟨_, z, _⟩ | ⟨h2, e2'⟩
      · subst z; cases o2
      · exact h.inj i j _ _ e1' e2' o1 o2 e3
  · obtain ⟨v, e1, e2⟩ := h.sl i r e
    refine ⟨v, e1, ?_⟩
    cases r with
    | sh d => exact Den.stay y e2
    | ex _ => exact ExV.stay y e2
    | own c' =>
      obtain ⟨q, hc'⟩ := e2
      exact ⟨q, by rw [put_len]; exact hc'⟩
  · rcases hb with hb | hb
    · exact h.zt b hb
    · obtain ⟨o, q, _⟩ := T.ow.at b hb
      exact ⟨o, q⟩
  · obtain ⟨e1, hne⟩ := put_tr rfl e
    have T1 := h.tt i e0 e1
    refine ⟨T1.ow, T1.nd, fun b hb z => ?_, fun b hb j x ej o q => ?_, fun b hb j e2 ej m => T1.nt b hb j e2 (put_tr rfl ej).1 m⟩
    · rcases z with z | z
      · exact T1.nz b hb z
      · exact hne (T.nt b z i e0 e1 hb)
    · rcases put_get ej with ⟨_, rfl, _⟩ | ⟨_, ej⟩
      · cases o
      · exact T1.no b hb j x ej o q
  · rcases q with q | q
    · exact .inl q
    · exact .inr (.inr (.inr ⟨c, d, hc, q⟩))
  · rcases put_get e with ⟨_, z, _⟩ | ⟨h1, e'⟩
    · subst z; exact cx.elim
    · exact .inl (.inl ⟨i, x, e', cx, eb⟩)
end
end E
/-! E2: expressions: names, constants, operators. -/
namespace E
open PySem PySem.Spec PyProof.Rows L2

section
variable {X : Cx} {W : WX} {e a b c : Expr} {f g : ES} {pos : Pos}
theorem pe_imp {t t' : TE} (h : PE X e t) (hi : ∀ σ H Q, t' σ H Q → t σ H Q) : PE X e t' := ⟨fun pins s σ H Q I q => h.run pins s σ H Q I (hi σ H Q q)⟩
theorem pt_imp {t t' : TT} (h : PT X e t) (hi : ∀ σ H Q, t' σ H Q → t σ H Q) : PT X e t' := ⟨fun pins s σ H Q I q => h.run pins s σ H Q I (hi σ H Q q)⟩
theorem ps_imp {st : Stmt} {t t' : TS} (h : PS X st t) (hi : ∀ σ H D, t' D σ H → t D σ H) : PS X st t' := ⟨fun pins s σ H D I q => h.run pins s σ H D I (hi σ H D q)⟩
end
section
variable {K : PySem.W.Frag} {mg : Str → Option Value} {W : WX} {w w' w₂ : Wd} {s s' s₂ : S} {H H' H₂ : Hp} {σ : St} {p q : Nat} {Z Z' : Addr → Prop} {Q : VK}
/-- data, nothing changed -/
theorem Post.sh {d : D} {v : V} (h : Post K mg W σ p w s H (.ok (.sh d) s) (QV K mg Q)) (hS : StR K mg w s σ H) (hp : p ≤ s.ce.length) (hd : Den K w.Z H v d) : Q v H := h w H hS (Ext.refl hp) v hd
theorem Post.val {r : R} {v : V} (h : Post K mg W σ p w s H (.ok r s) (QV K mg Q)) (hS : StR K mg w s σ H) (hp : p ≤ s.ce.length) (hd : RR K mg w s.ce.length H v r) : Q v H := h w H hS (Ext.refl hp) v hd
/-- a new list -/
theorem Post.new {ds : List D} {xs : List V} {a : Addr} (h : Post K mg W σ p w s H (.ok (.own s.ce.length) (s.push (.lv ds))) (QV K mg Q)) (hS : StR K mg w s σ H) (hp : p ≤ s.ce.length) (hd : Dens K w.Z H xs ds) (hn : H a = none) : Q (.ref a) (upd H a (.lst xs)) := by
  obtain ⟨h1, h2, h3⟩ := hS.new hn hd
  exact h _ _ h1 (h2.mono hp) _ h3
/-- a new tuple -/
theorem Post.tup {ds : List D} {xs : List V} {a : Addr} (h : Post K mg W σ p w s H (.ok (.sh (.tuple ds)) s) (QV K mg Q)) (hS : StR K mg w s σ H) (hp : p ≤ s.ce.length) (hd : Dens K w.Z H xs ds) (hn : H a = none) : Q (.ref a) (upd H a (.tup xs)) :=
  h _ _ (hS.lay hn) (Ext.lay hn hp) _ (.tup (.inl (.inl upd_same)) (Dens.stay (stay_upd hn) hd))
end

/-! ### names and constants -/
def varS (i : Nat) : ES := fun s => match s.sl[i]? with
  | some (some r) => .ok r s
  | _ => .bad
def litS (d : D) : ES := fun s => .ok (.sh d) s
section
variable {X : Cx} {W : WX} {e a b c : Expr} {f g : ES} {pos : Pos}
theorem se_var {i : Nat} {x : Str} (hN : X.N[i]? = some x) (hv : Vis X.env.scope x) (hd : (x == ("__debug__" : Str)) = false := by decide) (hcd : (x == ("__classdict__" : Str)) = false := by decide) : SE X W (.Name x pos) (varS i) := by
  refine pe_imp (pe_var hN hv hd hcd) fun σ H Q ⟨w, s, hS, h⟩ => ?_
  unfold varS at h
  split at h
  · rename_i r e
    obtain ⟨v, h1, h2⟩ := hS.sl i r e
    exact ⟨v, h1, h.val hS (Nat.le_refl _) h2⟩
  · exact h.elim
theorem lit_of {v : V} {d : D} (h : PE X e (tC v)) (hd : ∀ Z H, Den X.K Z H v d) : SE X W e (litS d) :=
  pe_imp h fun σ H Q ⟨w, s, hS, q⟩ => q.sh hS (Nat.le_refl _) (hd _ _)
theorem se_int {i : Int} {j : Nat} : SE X W (.Constant (.int i) j pos) (litS (.int i)) := lit_of pe_int fun _ _ => .int i
theorem se_bool {i : Bool} {j : Nat} : SE X W (.Constant (.bool i) j pos) (litS (.bool i)) := lit_of pe_bl fun _ _ => .bl i
theorem se_none {j : Nat} : SE X W (.Constant .none j pos) (litS .none) := lit_of pe_non fun _ _ => .non
theorem se_str {x : Str} {j : Nat} : SE X W (.Constant (.str x) j pos) (litS (.str x)) := lit_of pe_str fun _ _ => .str x
theorem se_glob {x : Str} {v : V} {u : Value} {d : D} (hg : Gl X x) (hm : X.mg x = some u) (r : RelV v u) (hd : ∀ Z H, Den X.K Z H v d) (hdb : (x == ("__debug__" : Str)) = false := by decide) : SE X W (.Name x pos) (litS d) :=
  lit_of (pe_glob hg hm r hdb) hd
end

/-! ### two places -/
def bin2 (g : R → R → S → Res R) (f1 f2 : ES) : ES := fun s => (f1 s).bind fun r1 s1 => (f2 s1).bind fun r2 s2 => g r1 r2 s2
/-- the state at which an operation on two values stands -/
def At2 (K : PySem.W.Frag) (mg : Str → Option Value) (W : WX) (g : R → R → S → Res R) : R2 := fun x y H Q =>
  ∃ σ w s r1 r2, StR K mg w s σ H ∧ RR K mg w s.ce.length H x r1 ∧ RR K mg w s.ce.length H y r2 ∧ Post K mg W σ s.ce.length w s H (g r1 r2 s) (QV K mg Q)
def OpS (X : Cx) (W : WX) (f : Value → Value → Sem Value) (g : R → R → S → Res R) : Prop := OpR X f (At2 X.K X.mg W g)
section
variable {X : Cx} {W : WX} {e a b c : Expr} {f f1 f2 : ES} {g : R → R → S → Res R} {pos : Pos}
theorem two_at {K : PySem.W.Frag} {mg : Str → Option Value} {σ : St} {H : Hp} {Q : VK} (h : tE K mg W (bin2 g f1 f2) σ H Q) : tE K mg W f1 σ H fun x H1 => tE K mg W f2 σ H1 fun y H2 => At2 K mg W g x y H2 Q := by
  obtain ⟨w, s, hS, h⟩ := h
  refine ⟨w, s, hS, Post.mono (Post.split h) fun w1 r1 s1 H1 _ _ ⟨hS1, e1, h1⟩ v hv => ?_⟩
  refine ⟨w1, s1, hS1, Post.mono (Post.split (h1 s1.ce.length e1.ln)) fun w2 r2 s2 H2 _ _ ⟨hS2, e2, h2⟩ v2 hv2 => ?_⟩
  exact ⟨σ, w2, s2, r1, r2, hS2, RR.stay hS1 e2 (Nat.le_refl _) hv, hv2, h2 _ e2.ln⟩
theorem se_bin {op : Operator} (ho : OpS X W (binaryOp op) g) (ha : SE X W a f1) (hb : SE X W b f2) : SE X W (.BinOp a op b pos) (bin2 g f1 f2) :=
  pe_imp (pe_op ho ha hb) fun σ H Q h => two_at h
theorem se_cmp {op : CmpOp} (ho : OpS X W (compareOp op) g) (ha : SE X W a f1) (hb : SE X W b f2) (hm : behindInMarks op b = false) : SE X W (.Compare a [op] [b] pos) (bin2 g f1 f2) :=
  pe_imp (pe_cmpR ho ha hb hm) fun σ H Q h => two_at h
end

/-! ### ints -/
/-- ints in under a condition -/
def intR (c : Int → Int → Prop) [∀ i j, Decidable (c i j)] (o : Int → Int → D) : R → R → S → Res R := fun r1 r2 s =>
  match s.look r1, s.look r2 with
  | some (.int i), some (.int j) => if c i j then .ok (.sh (o i j)) s else .bad
  | _, _ => .bad
section
variable {X : Cx} {W : WX}
theorem ops_int {f : Value → Value → Sem Value} {c : Int → Int → Prop} [∀ i j, Decidable (c i j)] {o : Int → Int → Int} (h : OpR X f (rI c fun i j => .int (o i j))) : OpS X W f (intR c fun i j => .int (o i j)) := by
  intro pins s0 σ0 H x y v u Q I rx ry ⟨σ, w, s, r1, r2, hS, h1, h2, hp⟩
  unfold intR at hp
  split at hp
  · rename_i i j e1 e2
    split at hp
    · rename_i hc
      have d1 := (look_ok hS e1 h1).int
      have d2 := (look_ok hS e2 h2).int
      exact h pins s0 σ0 H x y v u Q I rx ry ⟨i, j, d1, d2, hc, hp.sh hS (Nat.le_refl _) (.int _)⟩
    · exact hp.elim
  · exact hp.elim
theorem ops_cmpI {f : Value → Value → Sem Value} {o : Int → Int → Bool} (h : OpR X f (rI0 fun i j => .bl (o i j))) : OpS X W f (intR (fun _ _ => True) fun i j => .bool (o i j)) := by
  intro pins s0 σ0 H x y v u Q I rx ry ⟨σ, w, s, r1, r2, hS, h1, h2, hp⟩
  unfold intR at hp
  split at hp
  · rename_i i j e1 e2
    rw [if_pos trivial] at hp
    have d1 := (look_ok hS e1 h1).int
    have d2 := (look_ok hS e2 h2).int
    exact h pins s0 σ0 H x y v u Q I rx ry ⟨i, j, d1, d2, hp.sh hS (Nat.le_refl _) (.bl _)⟩
  · exact hp.elim
def cDiv (_ j : Int) : Prop := 0 < j ∧ j.natAbs.log2 < 9000
instance : ∀ i j, Decidable (cDiv i j) := fun i j => by unfold cDiv; exact inferInstance
def cMul (i j : Int) : Prop := i.natAbs.log2 + j.natAbs.log2 < 1000000
instance : ∀ i j, Decidable (cMul i j) := fun i j => by unfold cMul; exact inferInstance
def cPow (i j : Int) : Prop := 0 ≤ j ∧ (i.natAbs.log2 + 1) * j.toNat ≤ 1000000
instance : ∀ i j, Decidable (cPow i j) := fun i j => by unfold cPow; exact inferInstance
def cShl (i j : Int) : Prop := 0 ≤ j ∧ i.natAbs.log2 + 1 + j.toNat ≤ 1000000
instance : ∀ i j, Decidable (cShl i j) := fun i j => by unfold cShl; exact inferInstance
theorem bits_le (x : Int) : Builtin.Int.intBits x ≤ x.natAbs.log2 + 1 := by
  unfold Builtin.Int.intBits
  split <;> omega
theorem op_powW : OpR X (binaryOp .Pow) (rI cPow fun i j => .int (i ^ j.toNat)) := opI fun i j _ _ _ _ _ hc q => by
  refine pow_int hc.1 ?_ q
  have h1 := bits_le i
  have h2 : (i.natAbs.log2 + 1) * j.toNat ≤ 1000000 := hc.2
  have h3 : Builtin.Int.intBits i * j.toNat ≤ 1000000 := Nat.le_trans (Nat.mul_le_mul_right _ h1) h2
  have h4 : (j.toNat : Int) = j := Int.toNat_of_nonneg hc.1
  have h5 : ((Builtin.Int.intBits i * j.toNat : Nat) : Int) ≤ ((1000000 : Nat) : Int) := Int.ofNat_le.mpr h3
  rw [Int.natCast_mul, h4] at h5
  omega
theorem op_shlW' : OpR X (binaryOp .LShift) (rI cShl fun i j => .int (i * 2 ^ j.toNat)) := opI fun i j _ _ _ _ _ hc q => by
  refine lshift_int hc.1 ?_ q
  have h1 := bits_le i
  have h2 : i.natAbs.log2 + 1 + j.toNat ≤ 1000000 := hc.2
  have h4 : (j.toNat : Int) = j := Int.toNat_of_nonneg hc.1
  omega
theorem op_fdivX : OpR X (binaryOp .FloorDiv) (rI cDiv fun i j => .int (i / j)) := op_fdivW
theorem op_mulY : OpR X (binaryOp .Mult) (rI cMul fun i j => .int (i * j)) := op_mulW
theorem op_sub' : OpR X (binaryOp .Sub) (rI (fun _ _ => True) fun i j => .int (i - j)) := opI fun _ _ _ _ _ _ _ _ q => sub_int q
end
abbrev subR : R → R → S → Res R := intR (fun _ _ => True) fun i j => .int (i - j)
abbrev fdivR : R → R → S → Res R := intR cDiv fun i j => .int (i / j)
abbrev modR : R → R → S → Res R := intR (fun _ j => 0 < j) fun i j => .int (i % j)
abbrev powR : R → R → S → Res R := intR cPow fun i j => .int (i ^ j.toNat)
abbrev shlR : R → R → S → Res R := intR cShl fun i j => .int (i * 2 ^ j.toNat)
abbrev shrR : R → R → S → Res R := intR (fun _ j => 0 ≤ j) fun i j => .int (i / 2 ^ j.toNat)
abbrev andR : R → R → S → Res R := intR (fun _ _ => True) fun i j => .int (Builtin.bitAnd i j)
abbrev xorR : R → R → S → Res R := intR (fun _ _ => True) fun i j => .int (Builtin.bitXor i j)
abbrev ltR : R → R → S → Res R := intR (fun _ _ => True) fun i j => .bool (decide (i < j))
abbrev leR : R → R → S → Res R := intR (fun _ _ => True) fun i j => .bool (decide (i ≤ j))
abbrev gtR : R → R → S → Res R := intR (fun _ _ => True) fun i j => .bool (decide (j < i))
abbrev geR : R → R → S → Res R := intR (fun _ _ => True) fun i j => .bool (decide (j ≤ i))
section
variable {X : Cx} {W : WX}
theorem o_sub : OpS X W (binaryOp .Sub) subR := ops_int op_sub'
theorem o_fdiv : OpS X W (binaryOp .FloorDiv) fdivR := ops_int op_fdivX
theorem o_mod : OpS X W (binaryOp .Mod) modR := ops_int op_mod
theorem o_pow : OpS X W (binaryOp .Pow) powR := ops_int op_powW
theorem o_shl : OpS X W (binaryOp .LShift) shlR := ops_int op_shlW'
theorem o_lt : OpS X W (compareOp .Lt) ltR := ops_cmpI op_lt
theorem o_le : OpS X W (compareOp .LtE) leR := ops_cmpI op_le
theorem o_gt : OpS X W (compareOp .Gt) gtR := ops_cmpI op_gt
theorem o_ge : OpS X W (compareOp .GtE) geR := ops_cmpI op_ge
end

/-! ### + and * -/
def addR : R → R → S → Res R := fun r1 r2 s =>
  match s.look r1, s.look r2 with
  | some (.int i), some (.int j) => .ok (.sh (.int (i + j))) s
  | some (.list xs), some (.list ys) => if xs.length + ys.length ≤ sizeLine then .ok (.own s.ce.length) (s.push (.lv (xs ++ ys))) else .bad
  | some (.str x), some (.str y) => if x.length + y.length ≤ sizeLine then .ok (.sh (.str (x ++ y))) s else .bad
  | some (.tuple xs), some (.tuple ys) => if xs ≠ [] ∧ xs.length + ys.length ≤ sizeLine then .ok (.sh (.tuple (xs ++ ys))) s else .bad
  | _, _ => .bad
/-- not to be computed: an Int against 2 ^ 62 would be counted down in the kernel -/
def in62 (k : Int) : Prop := k < 2 ^ 62 ∧ -(2 ^ 62) < k
noncomputable instance (k : Int) : Decidable (in62 k) := Classical.propDecidable _
noncomputable def mulR : R → R → S → Res R := fun r1 r2 s =>
  match s.look r1, s.look r2 with
  | some (.int i), some (.int j) => if cMul i j then .ok (.sh (.int (i * j))) s else .bad
  | some (.list xs), some (.int k) => if in62 k ∧ xs.length * k.toNat ≤ sizeLine then .ok (.own s.ce.length) (s.push (.lv (List.replicate k.toNat xs).flatten)) else .bad
  | _, _ => .bad
section
variable {X : Cx} {W : WX} {K : PySem.W.Frag} {Z : Addr → Prop} {H : Hp}
theorem Dens.rep : ∀ (n : Nat) {xs : List V} {ds : List D}, Dens K Z H xs ds → Dens K Z H (List.replicate n xs).flatten (List.replicate n ds).flatten
  | 0, _, _, _ => .nil
  | n + 1, _, _, h => by
    rw [List.replicate_succ, List.replicate_succ, List.flatten_cons, List.flatten_cons]
    exact Dens.append h (Dens.rep n h)
theorem oP_add : OpS X W (binaryOp .Add) addR := by
  intro pins s0 σ0 H x y v u Q I rx ry ⟨σ, w, s, r1, r2, hS, h1, h2, hp⟩
  unfold addR at hp
  split at hp
  · rename_i i j e1 e2
    exact op_add pins s0 σ0 H x y v u Q I rx ry ⟨i, j, (look_ok hS e1 h1).int, (look_ok hS e2 h2).int, hp.sh hS (Nat.le_refl _) (.int _)⟩
  · rename_i xs ys e1 e2
    split at hp
    · rename_i hz
      obtain ⟨a, vs, rfl, l1, d1⟩ := (look_ok hS e1 h1).list
      obtain ⟨b, ws, rfl, l2, d2⟩ := (look_ok hS e2 h2).list
      cases rx
      cases ry
      obtain ⟨z1, its1, n1, q1, o1⟩ := l1.obj I
      obtain ⟨z2, its2, n2, q2, o2⟩ := l2.obj I
      have hz' : vs.length + ws.length ≤ sizeLine := by rw [d1.length, d2.length]; exact hz
      refine PySem.P.add_list o1 o2 ?_ (by simp only [List.size_toArray]; rw [← q1.length, ← q2.length]; exact hz')
      rw [List.append_toArray]
      exact ⟨V.ref _, _, I.lnew (t' := s0.toks) (q1.append q2) (by rw [List.length_append]; exact hz'), rfl, hp.new hS (Nat.le_refl _) (d1.append d2) I.fresh⟩
    · exact hp.elim
  · rename_i a b e1 e2
    split at hp
    · rename_i hz
      exact op_add_str pins s0 σ0 H x y v u Q I rx ry ⟨a, b, (look_ok hS e1 h1).str, (look_ok hS e2 h2).str, hz, hp.sh hS (Nat.le_refl _) (.str _)⟩
    · exact hp.elim
  · rename_i xs ys e1 e2
    split at hp
    · rename_i hz
      obtain ⟨hne, hz⟩ := hz
      obtain ⟨a, vs, rfl, l1, d1⟩ := (look_ok hS e1 h1).tup
      obtain ⟨b, ws, rfl, l2, d2⟩ := (look_ok hS e2 h2).tup
      have g1 := d1.length
      have g2 := d2.length
      refine op_catT pins s0 σ0 H _ _ v u Q I rx ry ⟨a, b, vs, ws, rfl, rfl, l1, l2, fun z => ?_, by omega, fun z => ?_, fun z p hn => ?_⟩
      · subst z
        exact hne (List.length_eq_zero_iff.mp g1.symm)
      · subst z
        have e0 : ys = [] := List.length_eq_zero_iff.mp g2.symm
        subst e0
        rw [List.append_nil] at hp
        exact hp.sh hS (Nat.le_refl _) (.tup l1 d1)
      · exact hp.tup hS (Nat.le_refl _) (d1.append d2) hn
    · exact hp.elim
  · exact hp.elim
theorem rep_fold (its : List Value) (m : Nat) : List.foldl (fun x1 x2 => x1 ++ x2) #[] (List.replicate m its.toArray) = (List.replicate m its).flatten.toArray := by
  have go : ∀ (m : Nat) (acc : List Value), List.foldl (fun x1 x2 => x1 ++ x2) acc.toArray (List.replicate m its.toArray) = (acc ++ (List.replicate m its).flatten).toArray := by
    intro m
    induction m with
    | zero => intro acc; simp
    | succ m ih =>
      intro acc
      rw [List.replicate_succ, List.foldl_cons, List.append_toArray, ih, List.replicate_succ, List.flatten_cons, List.append_assoc]
  exact (go m []).trans (by rw [List.nil_append])
theorem oP_mul : OpS X W (binaryOp .Mult) mulR := by
  intro pins s0 σ0 H x y v u Q I rx ry ⟨σ, w, s, r1, r2, hS, h1, h2, hp⟩
  unfold mulR at hp
  split at hp
  · rename_i i j e1 e2
    split at hp
    · rename_i hc
      exact op_mulY pins s0 σ0 H x y v u Q I rx ry ⟨i, j, (look_ok hS e1 h1).int, (look_ok hS e2 h2).int, hc, hp.sh hS (Nat.le_refl _) (.int _)⟩
    · exact hp.elim
  · rename_i xs k e1 e2
    split at hp
    · rename_i hz
      obtain ⟨⟨k2, k1⟩, hz⟩ := hz
      obtain ⟨a, vs, rfl, l1, d1⟩ := (look_ok hS e1 h1).list
      have ek := (look_ok hS e2 h2).int
      subst ek
      cases rx
      obtain ⟨t, rfl⟩ := ry
      obtain ⟨z1, its, n1, q1, o1⟩ := l1.obj I
      have gl := d1.length
      have ql := q1.length
      have big : its.length * k.toNat ≤ sizeLine := by rw [← ql, gl]; exact hz
      have small : (sizeLine : Nat) = 16777216 := sizeLine_eq
      have cap : ¬ its.toArray.size * k.toNat > (2 ^ 63 - 1) / 8 := by
        rw [List.size_toArray]
        omega
      have fit : ¬ (!Builtin.List.listFitsIndex k) = true := by
        rw [fitsIndex_both (by omega) (by omega)]
        exact Bool.false_ne_true
      have long : ¬ Builtin.List.listTooLong (its.toArray.size * k.toNat) = true := by
        rw [List.size_toArray, notLongL big]
        exact Bool.false_ne_true
      refine wpAny_binaryOp_repeat_ref (T := "list") (U := "int") (by decide) ⟨_, o1, rfl⟩ (fun s' => typeIs_int s' k t) noFill_list_mul F.fills_int_mul F.slot_int_rmul repeat_list F.slot_int_index.lookup
        (call_meets F.slot_int_rmul (typeIs_int s0 k t) F.entry_int_rmul (F.args_int_rmul_2 _ _) (int___rmul___int_list k t a its.toArray n1) ⟨o1, rfl, ⟨_, o1, rfl⟩, ?_⟩)
      refine call_meets F.slot_list_mul ⟨_, o1, rfl⟩ F.entry_list_mul (F.args_list_mul_2 _ _) (AutoListH.list___mul___list_int_3 a its.toArray n1 k t fit cap long) ⟨o1, ?_⟩
      have new : List.foldl (fun x1 x2 => x1 ++ x2) #[] (List.replicate (if its.toArray.isEmpty = true then 0 else k.toNat) its.toArray) = (List.replicate k.toNat its).flatten.toArray := by
        rw [rep_fold]
        cases its with
        | nil => simp
        | cons i0 r0 => rw [if_neg (by simp)]
      rw [new]
      refine ⟨V.ref _, _, I.lnew (t' := s0.toks) (q1.rep k.toNat) ?_, rfl, hp.new hS (Nat.le_refl _) (Dens.rep _ d1) I.fresh⟩
      rw [PyProof.Rows.lm_len_rep_flat, Nat.mul_comm, gl]
      exact hz
    · exact hp.elim
  · exact hp.elim
end
end E
/-! E3: displays, comparisons of data, subscripts, slices. -/
namespace E
open PySem PySem.Spec PyProof.Rows L2

/-! ### a value is fixed -/
def S.frz (s : S) : R → Option (D × S)
  | .sh d => some (d, s)
  | .own c => match s.cellAt c with
    | .lv ds => some (.list ds, s.put c (.fz ds))
    | .fz ds => some (.list ds, s)
    | .lk _ => none
    | .dead => none
    | .dv ds => some (.dict (ds.map fun p => (keyD p.1, p.2)), s.put c .dead)
    | .tr d => if d.hasDict = false then some (d, s.put c .dead) else none
  | .ex _ => none
def S.frzs (s : S) : List R → Option (List D × S)
  | [] => some ([], s)
  | r :: rs => match s.frz r with
    | none => none
    | some (d, s1) => match s1.frzs rs with
      | none => none
      | some (ds, s2) => some (d :: ds, s2)
section
variable {K : PySem.W.Frag} {mg : Str → Option Value} {W : WX} {w w' w₂ : Wd} {s s' s₂ : S} {H H' H₂ : Hp} {σ : St} {p q : Nat} {Z Z' : Addr → Prop} {Q : VK}
theorem cellAt_lv {c : Nat} {ds : List D} (h : s.cellAt c = .lv ds) : s.ce[c]? = some (.lv ds) := S.cellAt_some h (by simp)
theorem cellAt_fz {c : Nat} {ds : List D} (h : s.cellAt c = .fz ds) : s.ce[c]? = some (.fz ds) := S.cellAt_some h (by simp)
theorem frz_ok (hS : StR K mg w s σ H) {r : R} {d : D} {v : V} (h : s.frz r = some (d, s')) (hr : RR K mg w s.ce.length H v r) :
    ∃ w', StR K mg w' s' σ H ∧ Ext s.ce.length w s H w' s' H ∧ Den K w'.Z H v d ∧ s'.ce.length = s.ce.length := by
  cases r with
  | sh e =>
    have e1 : (e, s) = (d, s') := Option.some.inj h
    cases e1
    exact ⟨w, hS, Ext.refl (Nat.le_refl _), hr, rfl⟩
  | ex x => cases h
  | own c =>
    obtain ⟨rfl, hc⟩ := hr
    unfold S.frz at h
    cases e : s.cellAt c with
    | dead => simp only [e] at h; cases h
    | lk ds => simp only [e] at h; cases h
    | lv ds =>
      simp only [e] at h
      cases h
      obtain ⟨h1, h2, h3⟩ := hS.fix (cellAt_lv e)
      exact ⟨_, h1, h2, h3, put_len⟩
    | fz ds =>
      simp only [e] at h
      cases h
      obtain ⟨hz, xs, q, z⟩ := hS.cl c _ (cellAt_fz e)
      exact ⟨w, hS, Ext.refl (Nat.le_refl _), .lst (.inl ⟨hz, q⟩) z, rfl⟩
    | dv ds =>
      simp only [e] at h
      cases h
      obtain ⟨h1, h2, h3⟩ := hS.fixD (S.cellAt_some e (by simp))
      exact ⟨_, h1, h2, h3, put_len⟩
    | tr d0 =>
      simp only [e] at h
      split at h
      · rename_i hn
        cases h
        obtain ⟨h1, h2, h3⟩ := hS.fixT (S.cellAt_some e (by simp)) hn
        exact ⟨_, h1, h2, h3, put_len⟩
      · cases h
theorem frzs_ok : ∀ {rs : List R} {ds : List D} {vs : List V} {w : Wd} {s s' : S}, StR K mg w s σ H → s.frzs rs = some (ds, s') → RRs K mg w s.ce.length H vs rs →
    ∃ w', StR K mg w' s' σ H ∧ Ext s.ce.length w s H w' s' H ∧ Dens K w'.Z H vs ds ∧ s'.ce.length = s.ce.length
  | [], ds, vs, w, s, s', hS, h, hr => by
    have e1 : ([], s) = (ds, s') := Option.some.inj h
    cases e1
    cases hr
    exact ⟨w, hS, Ext.refl (Nat.le_refl _), .nil, rfl⟩
  | r :: rs, ds, vs, w, s, s', hS, h, hr => by
    unfold S.frzs at h
    cases hr with
    | cons h1 h2 =>
      cases e : s.frz r with
      | none => rw [e] at h; cases h
      | some q =>
        obtain ⟨d, s1⟩ := q
        rw [e] at h
        obtain ⟨w1, hS1, x1, d1, l1⟩ := frz_ok hS e h1
        have h2' := RRs.stay hS x1 (Nat.le_refl _) h2
        cases e2 : s1.frzs rs with
        | none => simp only [e2] at h; cases h
        | some q =>
          obtain ⟨ds', s2⟩ := q
          simp only [e2] at h
          cases h
          obtain ⟨w2, hS2, x2, d2, l2⟩ := frzs_ok hS1 e2 h2'
          have x2' : Ext s.ce.length w1 s1 H w2 _ H := x2.mono (by omega)
          exact ⟨w2, hS2, x1.trans x2' (Nat.le_refl _), .cons (Den.stay (hS1.stay x2) d1) d2, by omega⟩
end

/-! ### argument lists -/
def nilA : AS := fun s => .ok [] s
def consA (f : ES) (t : AS) : AS := fun s => (f s).bind fun r s1 => (t s1).bind fun rs s2 => .ok (r :: rs) s2
/-- a starred list or tuple -/
def starA (f : ES) (t : AS) : AS := fun s => (f s).bind fun r s1 => match s1.look r with
  | some (.list ds) => (t s1).bind fun rs s2 => .ok (ds.map R.sh ++ rs) s2
  | some (.tuple ds) => (t s1).bind fun rs s2 => .ok (ds.map R.sh ++ rs) s2
  | _ => .bad
section
variable {X : Cx} {W : WX} {e a b c : Expr} {es : List Expr} {f f1 f2 : ES} {t : AS} {g : R → R → S → Res R} {pos p : Pos}
theorem pa_imp {t t' : TA} (h : PA X es t) (hi : ∀ σ H Q, t' σ H Q → t σ H Q) : PA X es t' := ⟨fun pos pins s σ H Q I q => h.run pos pins s σ H Q I (hi σ H Q q)⟩
theorem sa_nil : SA X W [] nilA := pa_imp pa_nil fun σ H Q ⟨w, s, hS, h⟩ => h w H hS (Ext.refl (Nat.le_refl _)) [] .nil
theorem sa_cons (ha : SE X W e f) (hr : SA X W es t) (hs : starEach (e :: es) X.env = (false, eval e X.env) :: starEach es X.env := by rfl) : SA X W (e :: es) (consA f t) := by
  refine pa_imp (pa_cons ha hr hs) fun σ H Q ⟨w, s, hS, h⟩ => ?_
  refine ⟨w, s, hS, Post.mono (Post.split h) fun w1 r1 s1 H1 _ _ ⟨hS1, e1, h1⟩ v hv => ?_⟩
  refine ⟨w1, s1, hS1, Post.mono (Post.split (h1 s1.ce.length e1.ln)) fun w2 rs s2 H2 _ _ ⟨hS2, e2, h2⟩ vs hvs => ?_⟩
  exact h2 s2.ce.length e2.ln w2 H2 hS2 (Ext.refl (Nat.le_refl _)) _ (.cons (RR.stay hS1 e2 (Nat.le_refl _) hv) hvs)
theorem RRs.append {K : PySem.W.Frag} {mg : Str → Option Value} {w : Wd} {n : Nat} {H : Hp} : ∀ {vs : List V} {rs : List R} {ws : List V} {qs : List R}, RRs K mg w n H vs rs → RRs K mg w n H ws qs → RRs K mg w n H (vs ++ ws) (rs ++ qs)
  | _, _, _, _, .nil, q => q
  | _, _, _, _, .cons h t, q => .cons h (RRs.append t q)
end

/-! ### displays -/
def tupS (t : AS) : ES := fun s => (t s).bind fun rs s1 => match s1.frzs rs with
  | some (ds, s2) => if ds.length ≤ sizeLine then .ok (.sh (.tuple ds)) s2 else .bad
  | none => .bad
def lstS (t : AS) : ES := fun s => (t s).bind fun rs s1 => match s1.frzs rs with
  | some (ds, s2) => if ds.length ≤ sizeLine then .ok (.own s2.ce.length) (s2.push (.lv ds)) else .bad
  | none => .bad
section
variable {X : Cx} {W : WX} {e a b c : Expr} {es : List Expr} {f f1 f2 : ES} {t : AS} {pos p : Pos} {K : PySem.W.Frag} {mg : Str → Option Value} {w w' : Wd} {s s' : S} {H H' : Hp} {σ : St} {Q : VK}
theorem Post.move {α : Type} {q r' : Nat} {r : Res α} {Qx : Wd → α → S → Hp → Prop} (h : Post K mg W σ q w s H r Qx) (e : Ext q w s H w' s' H') (hq : q ≤ r') : Post K mg W σ r' w' s' H' r Qx := by
  cases r with
  | ok a s2 => exact fun w2 H2 h2 e2 => h w2 H2 h2 (e.trans e2 hq)
  | exc x s2 => exact fun w2 H2 cls dd h2 e2 => h w2 H2 cls dd h2 (e.trans e2 hq)
  | bad => exact h
theorem se_tup {k : Nat} (h : SA X W es t) : SE X W (.Tuple es k pos) (tupS t) := by
  refine pe_imp (pe_tup h) fun σ H Q ⟨w, s, hS, h⟩ => ?_
  refine ⟨w, s, hS, Post.mono (Post.split h) fun w1 rs s1 H1 _ _ ⟨hS1, e1, h1⟩ vs hvs => ?_⟩
  have h1 := h1 s1.ce.length e1.ln
  split at h1
  · rename_i ds s2 ef
    split at h1
    · rename_i hz
      obtain ⟨w2, hS2, x2, d2, l2⟩ := frzs_ok hS1 ef hvs
      refine ⟨by rw [d2.length]; exact hz, fun p hn => ?_⟩
      exact (h1.move x2 (Nat.le_of_eq l2.symm)).tup hS2 (Nat.le_refl _) d2 hn
    · exact h1.elim
  · exact h1.elim
theorem se_lst (h : SA X W es t) : SE X W (.List es pos) (lstS t) := by
  refine pe_imp (pe_lst h) fun σ H Q ⟨w, s, hS, h⟩ => ?_
  refine ⟨w, s, hS, Post.mono (Post.split h) fun w1 rs s1 H1 _ _ ⟨hS1, e1, h1⟩ vs hvs => ?_⟩
  have h1 := h1 s1.ce.length e1.ln
  split at h1
  · rename_i ds s2 ef
    split at h1
    · rename_i hz
      obtain ⟨w2, hS2, x2, d2, l2⟩ := frzs_ok hS1 ef hvs
      refine ⟨by rw [d2.length]; exact hz, fun p hn => ?_⟩
      exact (h1.move x2 (Nat.le_of_eq l2.symm)).new hS2 (Nat.le_refl _) d2 hn
    · exact h1.elim
  · exact h1.elim
end

/-! ### == and in -/
def isStr : D → Bool
  | .str _ => true
  | _ => false
def flatD : D → Bool
  | .none => true | .bool _ => true | .int _ => true | .str _ => true
  | _ => false
/-- two that == tells apart by content -/
def eqOk (d e : D) : Bool := (isStr d && isStr e) || (SeqAt.shaped d && SeqAt.shaped e)
def eqR (neg : Bool) : R → R → S → Res R := fun r1 r2 s => match s.look r1, s.look r2 with
  | some d, some e => if eqOk d e = true then .ok (.sh (.bool (if neg then !PyData.eqv d e else PyData.eqv d e))) s else .bad
  | _, _ => .bad
def inR (neg : Bool) : R → R → S → Res R := fun r1 r2 s => match s.look r1, s.look r2 with
  | some d, some (.tuple ds) => if flatD d = true ∧ ds.all flatD = true then .ok (.sh (.bool (if neg then !(ds.any fun z => PyData.eqv z d) else ds.any fun z => PyData.eqv z d))) s else .bad
  | some d, some (.list ds) => if flatD d = true ∧ ds.all flatD = true then .ok (.sh (.bool (if neg then !(ds.any fun z => PyData.eqv z d) else ds.any fun z => PyData.eqv z d))) s
      else if SeqAt.shaped d = true ∧ SeqAt.shaped (.list ds) = true then .ok (.sh (.bool (if neg then !(ds.any fun z => PyData.eqv z d) else ds.any fun z => PyData.eqv z d))) s else .bad
  | _, _ => .bad
section
variable {X : Cx} {W : WX} {e a b c : Expr} {es : List Expr} {f f1 f2 : ES} {t : AS} {pos p : Pos} {K : PySem.W.Frag} {mg : Str → Option Value} {w w' : Wd} {s s' : S} {H H' : Hp} {Z : Addr → Prop} {σ : St} {Q : VK}
theorem oP_eq (hu : X.A.units + 64 < cLine) : OpS X W (compareOp .Eq) (eqR false) := by
  intro pins s0 σ0 H x y v u Q I rx ry ⟨σ, w, s, r1, r2, hS, h1, h2, hp⟩
  unfold eqR at hp
  split at hp
  · rename_i d e e1 e2
    split at hp
    · rename_i hc
      have q := hp.sh hS (Nat.le_refl _) (.bl _)
      rcases Bool.or_eq_true_iff.mp hc with hc | hc
      · have ⟨c1, c2⟩ := Bool.and_eq_true_iff.mp hc
        cases d with
        | str x0 =>
          cases e with
          | str y0 =>
            have z1 := (look_ok hS e1 h1).str
            have z2 := (look_ok hS e2 h2).str
            subst z1 z2
            refine L2.op_eq pins s0 σ0 H _ _ v u Q I rx ry ⟨rfl, ?_⟩
            rw [dec_str]
            exact q
          | _ => cases c2
        | _ => cases c1
      · have ⟨c1, c2⟩ := Bool.and_eq_true_iff.mp hc
        exact op_eqD hu pins s0 σ0 H x y v u Q I rx ry ⟨d, e, (look_ok hS e1 h1).dp (PyData.hasDict_of_canLay _ (SeqAt.canLay_of_shaped c1)), (look_ok hS e2 h2).dp (PyData.hasDict_of_canLay _ (SeqAt.canLay_of_shaped c2)), c1, c2, q⟩
    · exact hp.elim
  · exact hp.elim
theorem oP_ne (hu : X.A.units + 64 < cLine) : OpS X W (compareOp .NotEq) (eqR true) := by
  intro pins s0 σ0 H x y v u Q I rx ry ⟨σ, w, s, r1, r2, hS, h1, h2, hp⟩
  unfold eqR at hp
  split at hp
  · rename_i d e e1 e2
    split at hp
    · rename_i hc
      have q := hp.sh hS (Nat.le_refl _) (.bl _)
      rcases Bool.or_eq_true_iff.mp hc with hc | hc
      · have ⟨c1, c2⟩ := Bool.and_eq_true_iff.mp hc
        cases d with
        | str x0 =>
          cases e with
          | str y0 =>
            have z1 := (look_ok hS e1 h1).str
            have z2 := (look_ok hS e2 h2).str
            subst z1 z2
            refine L2.op_ne pins s0 σ0 H _ _ v u Q I rx ry ⟨rfl, ?_⟩
            rw [dec_str]
            exact q
          | _ => cases c2
        | _ => cases c1
      · have ⟨c1, c2⟩ := Bool.and_eq_true_iff.mp hc
        exact op_neD hu pins s0 σ0 H x y v u Q I rx ry ⟨d, e, (look_ok hS e1 h1).dp (PyData.hasDict_of_canLay _ (SeqAt.canLay_of_shaped c1)), (look_ok hS e2 h2).dp (PyData.hasDict_of_canLay _ (SeqAt.canLay_of_shaped c2)), c1, c2, q⟩
    · exact hp.elim
  · exact hp.elim
theorem Den.flat {v : V} {d : D} (h : Den K Z H v d) (f : flatD d = true) : flatV v = true := by
  cases h <;> first | rfl | cases f
theorem Dens.flat : ∀ {vs : List V} {ds : List D}, Dens K Z H vs ds → ds.all flatD = true → vs.all flatV = true
  | _, _, .nil, _ => rfl
  | _, _, .cons h t, f => by
    rw [List.all_cons, Bool.and_eq_true] at f
    rw [List.all_cons, Den.flat h f.1, Dens.flat t f.2]
    rfl
theorem flat_eqv {v u : V} {d e : D} (h : Den K Z H v d) (k : Den K Z H u e) (f : flatD d = true) (f' : flatD e = true) : eqV v u = PyData.eqv d e := by
  cases h <;> cases k <;> first
    | rfl
    | exact absurd f Bool.false_ne_true
    | exact absurd f' Bool.false_ne_true
    | simp [eqV, PyData.eqv]
theorem flat_any {u : V} {e : D} (k : Den K Z H u e) (f' : flatD e = true) : ∀ {vs : List V} {ds : List D}, Dens K Z H vs ds → ds.all flatD = true → inV u vs = ds.any fun z => PyData.eqv z e
  | _, _, .nil, _ => rfl
  | _, _, .cons h t, f => by
    rw [List.all_cons, Bool.and_eq_true] at f
    have ih := flat_any k f' t f.2
    unfold inV at ih ⊢
    rw [List.any_cons, List.any_cons, ih, flat_eqv h k f.1 f']
theorem DL.flatDen {v : V} {d : D} (h : DL K Z H v d) (f : flatD d = true) : Den K Z H v d := by
  rcases h with h | ⟨a, xs, ds, rfl, rfl, q, z⟩
  · exact h
  · cases f
theorem oP_notIn (hu : X.A.units + 65 < cLine) : OpS X W (compareOp .NotIn) (inR true) := by
  intro pins s0 σ0 H x y v u Q I rx ry ⟨σ, w, s, r1, r2, hS, h1, h2, hp⟩
  unfold inR at hp
  split at hp
  · rename_i d ds e1 e2
    split at hp
    · rename_i hc
      have q := hp.sh hS (Nat.le_refl _) (.bl _)
      obtain ⟨a, xs, rfl, l, z⟩ := (look_ok hS e2 h2).tup
      have k := (look_ok hS e1 h1).flatDen hc.1
      refine op_notIn_seq pins s0 σ0 H _ _ v u Q I rx ry ⟨a, xs, rfl, .inr l, k.flat hc.1, z.flat hc.2, ?_⟩
      rw [if_pos rfl, flat_any k hc.1 z hc.2]
      exact q
    · exact hp.elim
  · rename_i d ds e1 e2
    split at hp
    · rename_i hc
      have q := hp.sh hS (Nat.le_refl _) (.bl _)
      obtain ⟨a, xs, rfl, l, z⟩ := (look_ok hS e2 h2).list
      have k := (look_ok hS e1 h1).flatDen hc.1
      refine op_notIn_seq pins s0 σ0 H _ _ v u Q I rx ry ⟨a, xs, rfl, .inl l.sq, k.flat hc.1, z.flat hc.2, ?_⟩
      rw [if_pos rfl, flat_any k hc.1 z hc.2]
      exact q
    · split at hp
      · rename_i hc
        have q := hp.sh hS (Nat.le_refl _) (.bl _)
        exact op_notInD hu pins s0 σ0 H _ _ v u Q I rx ry ⟨d, ds, (look_ok hS e1 h1).dp (PyData.hasDict_of_canLay _ (SeqAt.canLay_of_shaped hc.1)), (look_ok hS e2 h2).dp (PyData.hasDict_of_canLay _ (SeqAt.canLay_of_shaped hc.2)), hc.1, hc.2, q⟩
      · exact hp.elim
  · exact hp.elim
end

/-! ### is None, -, not -/
def isNone : D → Bool
  | .none => true
  | _ => false
def un1 (g : R → S → Res R) (f : ES) : ES := fun s => (f s).bind g
def isNR (neg : Bool) : R → S → Res R := fun r s => match s.look r with
  | some d => .ok (.sh (.bool (if neg then !isNone d else isNone d))) s
  | none => .bad
def negR : R → S → Res R := fun r s => match s.look r with
  | some (.int i) => .ok (.sh (.int (-i))) s
  | _ => .bad
section
variable {X : Cx} {W : WX} {e a b c : Expr} {es : List Expr} {f f1 f2 : ES} {t : AS} {pos p : Pos} {K : PySem.W.Frag} {mg : Str → Option Value} {w w' : Wd} {s s' : S} {H H' : Hp} {Z : Addr → Prop} {σ : St} {Q : VK}
theorem DL.isN {v : V} {d : D} (h : DL K Z H v d) : decide (v = .non) = isNone d := by
  rcases h with h | ⟨a, xs, ds, rfl, rfl, q, z⟩
  · cases h <;> simp [isNone]
  · simp [isNone]
theorem se_neg (ha : SE X W a f) : SE X W (.UnaryOp .USub a pos) (un1 negR f) := by
  refine pe_imp (pe_un un_neg ha) fun σ H Q h => ?_
  obtain ⟨w, s, hS, h⟩ := h
  refine ⟨w, s, hS, Post.mono (Post.split h) fun w1 r1 s1 H1 _ _ ⟨hS1, e1, h1⟩ v hv => ?_⟩
  have h1 := h1 s1.ce.length e1.ln
  unfold negR at h1
  split at h1
  · rename_i i el
    exact ⟨i, (look_ok hS1 el hv).int, h1.sh hS1 (Nat.le_refl _) (.int _)⟩
  · exact h1.elim
end

/-! ### subscripts and slices -/
def atD (ds : List D) (i : Int) : Option D := L2.atI ds i
def idxR : R → R → S → Res R := fun r1 r2 s => match s.look r1, s.look r2 with
  | some (.list ds), some (.int i) => match atD ds i with
    | some d => .ok (.sh d) s
    | none => .bad
  | some (.tuple ds), some (.int i) => match atD ds i with
    | some d => .ok (.sh d) s
    | none => .bad
  | some (.str z), some (.int i) => if z.length ≤ sizeLine then match L2.atI z.cps.toList i with
    | some c => .ok (.sh (.str ⟨#[c]⟩)) s
    | none => .bad else .bad
  | _, _ => .bad
section
variable {X : Cx} {W : WX} {e a b c : Expr} {es : List Expr} {f f1 f2 f3 : ES} {t : AS} {pos p : Pos} {K : PySem.W.Frag} {mg : Str → Option Value} {w w' : Wd} {s s' : S} {H H' : Hp} {Z : Addr → Prop} {σ : St} {Q : VK}
theorem Dens.at {vs : List V} {ds : List D} (h : Dens K Z H vs ds) {i : Int} {d : D} (e : atD ds i = some d) : ∃ v, L2.atI vs i = some v ∧ Den K Z H v d := by
  unfold atD L2.atI at *
  rw [h.length]
  cases q : ixN ds.length i with
  | none => rw [q] at e; cases e
  | some j =>
    rw [q] at e
    exact h.get e
theorem ixr_any : IxR X (At2 X.K X.mg W idxR) := by
  intro value slice pins s0 σ0 H x y v u Q I rx ry ⟨σ, w, s, r1, r2, hS, h1, h2, hp⟩ hs
  unfold idxR at hp
  split at hp
  · rename_i ds i e1 e2
    split at hp
    · rename_i d ed
      obtain ⟨a, xs, rfl, l, z⟩ := (look_ok hS e1 h1).list
      obtain ⟨v0, g1, g2⟩ := z.at ed
      exact ix_list value slice pins s0 σ0 H _ y v u Q I rx ry ⟨a, xs, i, v0, rfl, (look_ok hS e2 h2).int, l.sq, g1, hp.sh hS (Nat.le_refl _) g2⟩ hs
    · exact hp.elim
  · rename_i ds i e1 e2
    split at hp
    · rename_i d ed
      obtain ⟨a, xs, rfl, l, z⟩ := (look_ok hS e1 h1).tup
      obtain ⟨v0, g1, g2⟩ := z.at ed
      exact ix_tup value slice pins s0 σ0 H _ y v u Q I rx ry ⟨a, xs, i, v0, rfl, (look_ok hS e2 h2).int, l, g1, hp.sh hS (Nat.le_refl _) g2⟩ hs
    · exact hp.elim
  · rename_i z i e1 e2
    split at hp
    · rename_i hz
      split at hp
      · rename_i c ec
        exact ix_str value slice pins s0 σ0 H _ y v u Q I rx ry ⟨z, i, c, (look_ok hS e1 h1).str, (look_ok hS e2 h2).int, hz, ec, hp.sh hS (Nat.le_refl _) (.str _)⟩ hs
      · exact hp.elim
    · exact hp.elim
  · exact hp.elim
theorem se_ix (ha : SE X W a f1) (hb : SE X W b f2) (hs : PlainIx b) : SE X W (.Subscript a b pos) (bin2 idxR f1 f2) := pe_imp (pe_ix ixr_any ha hb hs) fun σ H Q h => two_at h
/-- a slice's ends -/
def cutD (ds : List D) (lo hi : Option Int) : List D := (ds.drop (HT.sIx ds.length 0 lo)).take (HT.sIx ds.length ds.length hi - HT.sIx ds.length 0 lo)
def OS := S → Res (Option Int)
def noO : OS := fun s => .ok none s
def someO (f : ES) : OS := fun s => (f s).bind fun r s1 => match s1.look r with
  | some (.int i) => .ok (some i) s1
  | _ => .bad
def sliR (lo hi : Option Int) : R → S → Res R := fun r s => match s.look r with
  | some (.list ds) => .ok (.own s.ce.length) (s.push (.lv (cutD ds lo hi)))
  | some (.tuple ds) => if HT.sIx ds.length 0 lo = 0 ∧ HT.sIx ds.length ds.length hi = ds.length then .bad else .ok (.sh (.tuple (cutD ds lo hi))) s
  | some (.str z) => if z.length ≤ sizeLine then .ok (.sh (.str (L2.cutS z lo hi))) s else .bad
  | _ => .bad
def sliS (f : ES) (lo hi : OS) : ES := fun s => (f s).bind fun r s1 => (lo s1).bind fun l s2 => (hi s2).bind fun h s3 => sliR l h r s3
def tO (K : PySem.W.Frag) (mg : Str → Option Value) (W : WX) (f : OS) : TO := fun σ H Q => ∃ w s, StR K mg w s σ H ∧ Post K mg W σ s.ce.length w s H (f s) (fun _ o _ H' => Q o H')
def SO (X : Cx) (W : WX) (e : Option Expr) (f : OS) : Prop := PO X e (tO X.K X.mg W f)
theorem po_imp {e : Option Expr} {t t' : TO} (h : PO X e t) (hi : ∀ σ H Q, t' σ H Q → t σ H Q) : PO X e t' := ⟨fun pins s σ H Q I q => h.run pins s σ H Q I (hi σ H Q q)⟩
theorem so_none : SO X W none noO := po_imp po_none fun σ H Q ⟨w, s, hS, h⟩ => h w H hS (Ext.refl (Nat.le_refl _))
theorem so_some (h : SE X W e f) : SO X W (some e) (someO f) := by
  refine po_imp (po_some h) fun σ H Q ⟨w, s, hS, h⟩ => ?_
  refine ⟨w, s, hS, Post.mono (Post.split h) fun w1 r1 s1 H1 _ _ ⟨hS1, e1, h1⟩ v hv => ?_⟩
  have h1 := h1 s1.ce.length e1.ln
  split at h1
  · rename_i i el
    exact ⟨i, (look_ok hS1 el hv).int, h1 w1 H1 hS1 (Ext.refl (Nat.le_refl _))⟩
  · exact h1.elim
theorem cut_dens {vs : List V} {ds : List D} (h : Dens K Z H vs ds) (lo hi : Option Int) : Dens K Z H (cutV vs lo hi) (cutD ds lo hi) := by
  unfold cutV cutD
  rw [h.length]
  exact (h.drop _).take _
theorem slr_any : SlR X (fun x lo hi H Q => ∃ σ w s r, StR X.K X.mg w s σ H ∧ RR X.K X.mg w s.ce.length H x r ∧ Post X.K X.mg W σ s.ce.length w s H (sliR lo hi r s) (QV X.K X.mg Q)) := by
  intro pins s0 σ0 H x v vl vu lo hi sl Q I rx hs pl pu ⟨σ, w, s, r, hS, h1, hp⟩
  unfold sliR at hp
  split at hp
  · rename_i ds e1
    obtain ⟨a, xs, rfl, l, z⟩ := (look_ok hS e1 h1).list
    exact sl_list pins s0 σ0 H _ v vl vu lo hi sl Q I rx hs pl pu ⟨a, xs, rfl, l.sq, fun p hn => hp.new hS (Nat.le_refl _) (cut_dens z lo hi) hn⟩
  · rename_i ds e1
    obtain ⟨a, xs, rfl, l, z⟩ := (look_ok hS e1 h1).tup
    split at hp
    · exact hp.elim
    · rename_i hc
      exact sl_tup pins s0 σ0 H _ v vl vu lo hi sl Q I rx hs pl pu ⟨a, xs, rfl, l, by rw [z.length]; exact hc, fun p hn => hp.tup hS (Nat.le_refl _) (cut_dens z lo hi) hn⟩
  · rename_i z e1
    split at hp
    · rename_i hz
      exact sl_str pins s0 σ0 H _ v vl vu lo hi sl Q I rx hs pl pu ⟨z, (look_ok hS e1 h1).str, hz, hp.sh hS (Nat.le_refl _) (.str _)⟩
    · exact hp.elim
  · exact hp.elim
theorem se_slice {lo hi : Option Expr} {l h : OS} {p2 : Pos} (ha : SE X W a f) (hl : SO X W lo l) (hh : SO X W hi h) : SE X W (.Subscript a (.Slice lo hi none p2) pos) (sliS f l h) := by
  refine pe_imp (pe_slice (slr_any (W := W)) ha hl hh) fun σ H Q ⟨w, s, hS, hp⟩ => ?_
  refine ⟨w, s, hS, Post.mono (Post.split hp) fun w1 r1 s1 H1 _ _ ⟨hS1, e1, h1⟩ v hv => ?_⟩
  refine ⟨w1, s1, hS1, Post.mono (Post.split (h1 s1.ce.length e1.ln)) fun w2 o2 s2 H2 _ _ ⟨hS2, e2, h2⟩ => ?_⟩
  have hv2 := RR.stay hS1 e2 (Nat.le_refl _) hv
  refine ⟨w2, s2, hS2, Post.mono (Post.split (h2 s2.ce.length e2.ln)) fun w3 o3 s3 H3 _ _ ⟨hS3, e3, h3⟩ => ?_⟩
  exact ⟨σ, w3, s3, r1, hS3, RR.stay hS2 e3 (Nat.le_refl _) hv2, h3 _ e3.ln⟩
end
end E
/-! E4: tests, and, or, not; calls of built-ins; methods of lists. -/
namespace E
open PySem PySem.Spec PyProof.Rows L2

/-! ### data as the library reads it -/
section
variable {X : Cx} {pins : List (Addr × Obj)} {σ : St} {H : Hp} {s : Shared} {Z : Addr → Prop}
theorem LstA.away (sm : SM X.K H) {a : Addr} {xs : List V} (h : LstA X.K H a xs) : sysModules ≠ a := by
  intro z
  subst z
  obtain ⟨⟨φ, q⟩, n⟩ := sm
  rcases h with h | ⟨o, h⟩ | ⟨its, k, h, _⟩
  · rw [q] at h; cases h
  · rw [q] at h; cases h
  · rw [n] at h; cases h
theorem keyD_reads {k : Key} {e : Value} {h : Heap} (q : keyIs k e = true) : Reads h e (keyD k) [] := by
  rcases keyIs_shape q with ⟨i, t, rfl, rfl⟩ | ⟨x, t, rfl, rfl⟩
  · exact .int i t
  · exact .str x t
mutual
theorem Den.reads (I : Inv X pins σ H s) (sm : SM X.K H) : ∀ {v : V} {d : D} {u : Value}, Den X.K Z H v d → RelV v u → ∃ as, Reads s.heap u d as ∧ sysModules ∉ as
  | _, _, _, .non, r => by cases r; exact ⟨_, Reads.none, by simp⟩
  | _, _, _, .bl b, r => by cases r; exact ⟨_, Reads.bool b, by simp⟩
  | _, _, _, .int i, r => by obtain ⟨t, rfl⟩ := r; exact ⟨_, Reads.int i t, by simp⟩
  | _, _, _, .str x, r => by obtain ⟨t, rfl⟩ := r; exact ⟨_, Reads.str x t, by simp⟩
  | _, _, _, .lst hs ha, r => by
    cases r
    obtain ⟨its, rv, ⟨o, n, ho, hc, _, hd⟩, _⟩ := I.list hs.sq
    obtain ⟨as, hr, hm⟩ := Dens.reads I sm ha rv
    exact ⟨_, Reads.list ho hc hd hr, fun z => by
      rcases List.mem_cons.mp z with z | z
      · exact hs.any.away sm z
      · exact hm z⟩
  | _, _, _, .tup hs ha, r => by
    cases r
    obtain ⟨its, rv, ⟨o, ho, hc, n, hd⟩, _⟩ := I.tuple hs
    obtain ⟨as, hr, hm⟩ := Dens.reads I sm ha rv
    exact ⟨_, Reads.tuple ho hc hd hr, hm⟩
  | _, _, _, .dic h ha, r => by
    cases r
    obtain ⟨z, hd, vs, rel, o, es, ep, ho, hx, hdata, _, hp, _⟩ := dk_of I.hok h.2
    obtain ⟨as, bs, h1, h2, h3, h4⟩ := DKv.reads I sm ha rel hp
    refine ⟨_, Reads.dict ho hx.1 hdata h1 h2, fun z => ?_⟩
    rcases List.mem_append.mp z with z | z
    · rcases List.mem_cons.mp z with z | z
      · rw [← z] at hd
        simp at hd
      · exact h3 z
    · exact h4 z
theorem Dens.reads (I : Inv X pins σ H s) (sm : SM X.K H) : ∀ {vs : List V} {ds : List D} {us : List Value}, Dens X.K Z H vs ds → Vals vs us → ∃ as, ReadsAll s.heap us ds as ∧ sysModules ∉ as
  | _, _, _, .nil, r => by cases r; exact ⟨_, ReadsAll.nil, by simp⟩
  | _, _, _, .cons h1 h2, r => by
    cases r with
    | cons r1 r2 =>
      obtain ⟨as, q1, m1⟩ := Den.reads I sm h1 r1
      obtain ⟨bs, q2, m2⟩ := Dens.reads I sm h2 r2
      exact ⟨_, ReadsAll.cons q1 q2, fun z => (List.mem_append.mp z).elim m1 m2⟩
theorem DKv.reads (I : Inv X pins σ H s) (sm : SM X.K H) : ∀ {kvs : List (Key × V)} {ds : List (D × D)} {vs : List (Key × Value)} {es : List DictEntry}, DKv X.K Z H kvs ds → KV kvs vs → Pairs (mixKind X.prog X.w) es vs →
    ∃ as bs, ReadsAll s.heap (es.map (·.key)) (ds.map (·.1)) as ∧ ReadsAll s.heap (es.map (·.val)) (ds.map (·.2)) bs ∧ sysModules ∉ as ∧ sysModules ∉ bs
  | _, _, _, _, .nil, r, p => by
    cases r
    cases p
    exact ⟨_, _, ReadsAll.nil, ReadsAll.nil, by simp, by simp⟩
  | _, _, _, _, .cons h1 h2, r, p => by
    cases r with
    | cons r1 r2 =>
      cases p with
      | cons p1 p2 p3 =>
        obtain ⟨r1, r3⟩ := r1
        dsimp only at r1 r3
        obtain ⟨as, bs, a1, a2, a3, a4⟩ := DKv.reads I sm h2 r2 p3
        obtain ⟨cs, b1, b2⟩ := Den.reads I sm h1 r3
        refine ⟨_, _, ReadsAll.cons (keyD_reads (by rw [r1]; exact p1)) a1, ReadsAll.cons (by show Reads s.heap (DictEntry.val _) _ _; rw [p2]; exact b1) a2, by simpa using a3, fun z => (List.mem_append.mp z).elim b2 a4⟩
end
theorem DL.reads (I : Inv X pins σ H s) (sm : SM X.K H) {v : V} {d : D} {u : Value} (h : DL X.K Z H v d) (r : RelV v u) : ∃ as, Reads s.heap u d as ∧ sysModules ∉ as := by
  rcases h with h | ⟨a, xs, ds, rfl, rfl, q, z⟩
  · exact h.reads I sm r
  · cases r
    have hs : LstA X.K H a xs := .inl q
    obtain ⟨its, rv, ⟨o, n, ho, hc, _, hd⟩, _⟩ := I.list hs.sq
    obtain ⟨as, hr, hm⟩ := z.reads I sm rv
    exact ⟨_, Reads.list ho hc hd hr, fun z => by
      rcases List.mem_cons.mp z with z | z
      · exact hs.away sm z
      · exact hm z⟩
end

/-! ### tests -/
def truD : D → Bool
  | .none => false
  | .bool b => b
  | .int i => i != 0
  | .str x => ((x.length : Int) != 0)
  | .list ds => !ds.isEmpty
  | .tuple ds => !ds.isEmpty
  | .dict kv => !kv.isEmpty
def truOk : D → Bool
  | .str x => decide (x.length ≤ sizeLine)
  | .dict _ => false
  | _ => true
def truS (f : ES) : TS' := fun s => (f s).bind fun r s1 => match s1.look r with
  | some d => if truOk d = true then .ok (truD d) s1 else .bad
  | none => .bad
def boolT (f : ES) : TS' := fun s => (f s).bind fun r s1 => match r with
  | .sh (.bool b) => .ok b s1
  | _ => .bad
def notT (f : TS') : TS' := fun s => (f s).bind fun b s1 => .ok (!b) s1
def andT (f g : TS') : TS' := fun s => (f s).bind fun b s1 => if b = true then g s1 else .ok false s1
def orT (f g : TS') : TS' := fun s => (f s).bind fun b s1 => if b = true then .ok true s1 else g s1
section
variable {X : Cx} {W : WX} {e a b c : Expr} {es rest : List Expr} {f f1 f2 f3 : ES} {u u1 u2 : TS'} {t : AS} {g g' : R → R → S → Res R} {pos p : Pos} {K : PySem.W.Frag} {mg : Str → Option Value} {w w' : Wd} {s s' : S} {H H' : Hp} {Z : Addr → Prop} {σ : St} {Q : VK}
theorem isEmpty_dens {vs : List V} {ds : List D} (h : Dens K Z H vs ds) : vs.isEmpty = ds.isEmpty := by cases h <;> rfl
theorem tru_v {v : V} {d : D} (h : DL K Z H v d) (ho : truOk d = true) : TruV K v H (truD d) := by
  cases d with
  | none => rw [h.none]; rfl
  | bool b => rw [h.bool]; rfl
  | int i => rw [h.int]; rfl
  | str x => rw [h.str]; exact ⟨of_decide_eq_true ho, rfl⟩
  | list ds =>
    obtain ⟨a, xs, rfl, l, z⟩ := h.list
    exact .inl ⟨xs, l.sq, by rw [isEmpty_dens z]; rfl⟩
  | tuple ds =>
    obtain ⟨a, xs, rfl, l, z⟩ := h.tup
    exact .inr (.inl ⟨xs, l, by rw [isEmpty_dens z]; rfl⟩)
  | dict kv => cases ho
theorem st_truth (ha : SE X W a f) (he : ∀ whole, isTrue a X.env whole = (do let v ← whole; standAt a.pos; holding [v] (truthy v)) := by intro _; rfl) : ST X W a (truS f) := by
  refine pt_imp (pt_truth ha he) fun σ H Q ⟨w, s, hS, h⟩ => ?_
  refine ⟨w, s, hS, Post.mono (Post.split h) fun w1 r1 s1 H1 _ _ ⟨hS1, e1, h1⟩ v hv => ?_⟩
  have h1 := h1 s1.ce.length e1.ln
  split at h1
  · rename_i d el
    split at h1
    · rename_i hc
      exact ⟨truD d, tru_v (look_ok hS1 el hv) hc, h1 w1 H1 hS1 (Ext.refl (Nat.le_refl _))⟩
    · exact h1.elim
  · exact h1.elim
theorem bool_of {r : R} {b : Bool} {v : V} {n : Nat} (h : r = .sh (.bool b)) (hv : RR K mg w n H v r) : v = .bl b := by
  subst h
  cases (show Den K w.Z H v (.bool b) from hv)
  rfl
/-- a value that is a bool, as a test -/
theorem boolT_at {R' : V → Hp → Prop} {Qb : Bool → Hp → Prop} (h : tT K mg W (boolT f) σ H Qb) (hr : ∀ x H1, (∃ k, x = .bl k ∧ Qb k H1) → R' x H1) : tE K mg W f σ H R' := by
  obtain ⟨w, s, hS, h⟩ := h
  refine ⟨w, s, hS, Post.mono (Post.split h) fun w1 r1 s1 H1 _ _ ⟨hS1, e1, h1⟩ v hv => hr v H1 ?_⟩
  have h1 := h1 s1.ce.length e1.ln
  split at h1
  · exact ⟨_, bool_of rfl hv, h1 w1 H1 hS1 (Ext.refl (Nat.le_refl _))⟩
  · exact h1.elim
theorem st_cmp {op : CmpOp} (ho : OpS X W (compareOp op) g) (ha : SE X W a f1) (hb : SE X W b f2) (hm : behindInMarks op b = false) : ST X W (.Compare a [op] [b] pos) (boolT (bin2 g f1 f2)) :=
  pt_imp (pt_cmpR ho ha hb hm) fun σ H Q h => two_at (boolT_at h fun _ _ q => q)
theorem st_isN {j : Nat} {p' : Pos} (ha : SE X W a f) : ST X W (.Compare a [.Is] [.Constant .none j p'] pos) (boolT (un1 (isNR false) f)) := by
  refine pt_imp (pt_cmp (pc_isN ha) rfl) fun σ H Q h => ?_
  refine (show tE X.K X.mg W f σ H _ from ?_)
  obtain ⟨w, s, hS, h⟩ := boolT_at h fun _ _ q => q
  refine ⟨w, s, hS, Post.mono (Post.split h) fun w1 r1 s1 H1 _ _ ⟨hS1, e1, h1⟩ v hv => ?_⟩
  have h1 := h1 s1.ce.length e1.ln
  unfold isNR at h1
  split at h1
  · rename_i d el
    have := h1.sh hS1 (Nat.le_refl _) (.bl _)
    rw [if_neg Bool.false_ne_true, ← (look_ok hS1 el hv).isN] at this
    exact this
  · exact h1.elim
theorem st_not (ha : ST X W a u) : ST X W (.UnaryOp .Not a pos) (notT u) := by
  refine pt_imp (pt_not ha) fun σ H Q ⟨w, s, hS, h⟩ => ?_
  refine ⟨w, s, hS, Post.mono (Post.split h) fun w1 r1 s1 H1 _ _ ⟨hS1, e1, h1⟩ => ?_⟩
  exact h1 _ e1.ln w1 H1 hS1 (Ext.refl (Nat.le_refl _))
theorem pw_imp {t t' : TT} (h : PW X e t) (hi : ∀ σ H Q, t' σ H Q → t σ H Q) : PW X e t' := ⟨fun wh pins s σ H Q I q => h.run wh pins s σ H Q I (hi σ H Q q)⟩
theorem sw_and1 (ha : ST X W a u) : SW X W (.BoolOp .And [a] pos) u := pw_and1 ha
theorem sw_or1 (ha : ST X W a u) : SW X W (.BoolOp .Or [a] pos) u := pw_or1 ha
theorem and_at {Qb : Bool → Hp → Prop} (h : tT K mg W (andT u1 u2) σ H Qb) : tAnd (tT K mg W u1) (tT K mg W u2) σ H Qb := by
  obtain ⟨w, s, hS, h⟩ := h
  refine ⟨w, s, hS, Post.mono (Post.split h) fun w1 b1 s1 H1 _ _ ⟨hS1, e1, h1⟩ => ?_⟩
  have h1 := h1 s1.ce.length e1.ln
  cases b1 with
  | true => exact ⟨w1, s1, hS1, h1⟩
  | false => exact h1 w1 H1 hS1 (Ext.refl (Nat.le_refl _))
theorem or_at {Qb : Bool → Hp → Prop} (h : tT K mg W (orT u1 u2) σ H Qb) : tOr (tT K mg W u1) (tT K mg W u2) σ H Qb := by
  obtain ⟨w, s, hS, h⟩ := h
  refine ⟨w, s, hS, Post.mono (Post.split h) fun w1 b1 s1 H1 _ _ ⟨hS1, e1, h1⟩ => ?_⟩
  have h1 := h1 s1.ce.length e1.ln
  cases b1 with
  | true => exact h1 w1 H1 hS1 (Ext.refl (Nat.le_refl _))
  | false => exact ⟨w1, s1, hS1, h1⟩
theorem sw_and (ha : ST X W a u1) (hb : SW X W (.BoolOp .And (b :: rest) pos) u2) : SW X W (.BoolOp .And (a :: b :: rest) pos) (andT u1 u2) := pw_imp (pw_and ha hb) fun σ H Q h => and_at h
theorem sw_or (ha : ST X W a u1) (hb : SW X W (.BoolOp .Or (b :: rest) pos) u2) : SW X W (.BoolOp .Or (a :: b :: rest) pos) (orT u1 u2) := pw_imp (pw_or ha hb) fun σ H Q h => or_at h
theorem st_w (h : SW X W e u) : ST X W e u := PW.pt h

/-! ### .. as values -/
def andV (f g : ES) : ES := fun s => (f s).bind fun r s1 => match r with
  | .sh (.bool true) => g s1
  | .sh (.bool false) => .ok (.sh (.bool false)) s1
  | _ => .bad
def orV (f g : ES) : ES := fun s => (f s).bind fun r s1 => match r with
  | .sh (.bool true) => .ok (.sh (.bool true)) s1
  | .sh (.bool false) => g s1
  | _ => .bad
def notR : R → S → Res R := fun r s => match s.look r with
  | some d => if truOk d = true then .ok (.sh (.bool (!truD d))) s else .bad
  | none => .bad
def iteS (u : TS') (f g : ES) : ES := fun s => (u s).bind fun b s1 => if b = true then f s1 else g s1
def chainS (g g' : R → R → S → Res R) (f1 f2 f3 : ES) : ES := fun s => (f1 s).bind fun r1 s1 => (f2 s1).bind fun r2 s2 => (g r1 r2 s2).bind fun k s3 => match k with
  | .sh (.bool true) => (f3 s3).bind fun r3 s4 => g' r2 r3 s4
  | .sh (.bool false) => .ok (.sh (.bool false)) s3
  | _ => .bad
theorem se_one {op : BoolOp} (h : SE X W a f) : SE X W (.BoolOp op [a] pos) f := pe_one h
theorem se_and (ha : SE X W a f1) (hb : SE X W (.BoolOp .And (b :: rest) pos) f2) : SE X W (.BoolOp .And (a :: b :: rest) pos) (andV f1 f2) := by
  refine pe_imp (pe_and ha hb) fun σ H Q ⟨w, s, hS, h⟩ => ?_
  refine ⟨w, s, hS, Post.mono (Post.split h) fun w1 r1 s1 H1 _ _ ⟨hS1, e1, h1⟩ v hv => ?_⟩
  have h1 := h1 s1.ce.length e1.ln
  split at h1
  · exact ⟨true, bool_of rfl hv, ⟨w1, s1, hS1, h1⟩⟩
  · exact ⟨false, bool_of rfl hv, h1.sh hS1 (Nat.le_refl _) (.bl _)⟩
  · exact h1.elim
theorem se_not (ha : SE X W a f) : SE X W (.UnaryOp .Not a pos) (un1 notR f) := by
  refine pe_imp (pe_notT ha) fun σ H Q ⟨w, s, hS, h⟩ => ?_
  refine ⟨w, s, hS, Post.mono (Post.split h) fun w1 r1 s1 H1 _ _ ⟨hS1, e1, h1⟩ v hv => ?_⟩
  have h1 := h1 s1.ce.length e1.ln
  unfold notR at h1
  split at h1
  · rename_i d el
    split at h1
    · rename_i hc
      exact ⟨truD d, tru_v (look_ok hS1 el hv) hc, h1.sh hS1 (Nat.le_refl _) (.bl _)⟩
    · exact h1.elim
  · exact h1.elim
theorem se_ite (hc : ST X W c u) (ha : SE X W a f1) (hb : SE X W b f2) : SE X W (.IfExp c a b pos) (iteS u f1 f2) := by
  refine pe_imp (pe_ifExp hc ha hb) fun σ H Q ⟨w, s, hS, h⟩ => ?_
  refine ⟨w, s, hS, Post.mono (Post.split h) fun w1 b1 s1 H1 _ _ ⟨hS1, e1, h1⟩ => ?_⟩
  have h1 := h1 s1.ce.length e1.ln
  cases b1 with
  | true => exact ⟨w1, s1, hS1, h1⟩
  | false => exact ⟨w1, s1, hS1, h1⟩
theorem chain_at (h : tE K mg W (chainS g g' f1 f2 f3) σ H Q) : tChain (At2 K mg W g) (At2 K mg W g') (tE K mg W f1) (tE K mg W f2) (tE K mg W f3) σ H Q := by
  obtain ⟨w, s, hS, h⟩ := h
  refine ⟨w, s, hS, Post.mono (Post.split h) fun w1 r1 s1 H1 _ _ ⟨hS1, e1, h1⟩ v1 hv1 => ?_⟩
  refine ⟨w1, s1, hS1, Post.mono (Post.split (h1 s1.ce.length e1.ln)) fun w2 r2 s2 H2 _ _ ⟨hS2, e2, h2⟩ v2 hv2 => ?_⟩
  have hv1' := RR.stay hS1 e2 (Nat.le_refl _) hv1
  refine ⟨σ, w2, s2, r1, r2, hS2, hv1', hv2, Post.mono (Post.split (h2 s2.ce.length e2.ln)) fun w3 k s3 H3 _ _ ⟨hS3, e3, h3⟩ v3 hv3 => ?_⟩
  have hv2' := RR.stay hS2 e3 (Nat.le_refl _) hv2
  have h3 := h3 s3.ce.length e3.ln
  split at h3
  · refine ⟨true, bool_of rfl hv3, ?_⟩
    rw [if_pos rfl]
    refine ⟨w3, s3, hS3, Post.mono (Post.split h3) fun w4 r4 s4 H4 _ _ ⟨hS4, e4, h4⟩ v4 hv4 => ?_⟩
    exact ⟨σ, w4, s4, r2, r4, hS4, RR.stay hS3 e4 (Nat.le_refl _) hv2', hv4, h4 _ e4.ln⟩
  · refine ⟨false, bool_of rfl hv3, ?_⟩
    rw [if_neg Bool.false_ne_true]
    exact h3.sh hS3 (Nat.le_refl _) (.bl _)
  · exact h3.elim
theorem se_chain {op op' : CmpOp} (ho : OpS X W (compareOp op) g) (ho' : OpS X W (compareOp op') g') (ha : SE X W a f1) (hb : SE X W b f2) (hc : SE X W c f3) (hm : lastMarks [op, op'] [b, c] = false := by with_unfolding_all rfl) :
    SE X W (.Compare a [op, op'] [b, c] pos) (chainS g g' f1 f2 f3) := pe_imp (pe_chain ho ho' ha hb hc hm) fun σ H Q h => chain_at h
theorem st_chain {op op' : CmpOp} (ho : OpS X W (compareOp op) g) (ho' : OpS X W (compareOp op') g') (ha : SE X W a f1) (hb : SE X W b f2) (hc : SE X W c f3) (hm : lastMarks [op, op'] [b, c] = false := by with_unfolding_all rfl) :
    ST X W (.Compare a [op, op'] [b, c] pos) (boolT (chainS g g' f1 f2 f3)) := pt_imp (pt_chain ho ho' ha hb hc hm) fun σ H Q h => chain_at (boolT_at h fun _ _ q => q)
end

/-! ### built-ins by values -/
def AtN (K : PySem.W.Frag) (mg : Str → Option Value) (W : WX) (g : List R → S → Res R) : List V → Hp → VK → Prop := fun xs H Q =>
  ∃ σ w s rs, StR K mg w s σ H ∧ RRs K mg w s.ce.length H xs rs ∧ Post K mg W σ s.ce.length w s H (g rs s) (QV K mg Q)
def CallS (X : Cx) (W : WX) (f : Value) (g : List R → S → Res R) : Prop := CallR X f (AtN X.K X.mg W g)
def callG (g : List R → S → Res R) (t : AS) : ES := fun s => (t s).bind g
section
variable {X : Cx} {W : WX} {e a b c : Expr} {es rest : List Expr} {f f1 f2 f3 : ES} {u u1 u2 : TS'} {t : AS} {g : List R → S → Res R} {pos p : Pos} {K : PySem.W.Frag} {mg : Str → Option Value} {w w' : Wd} {s s' : S} {H H' : Hp} {Z : Addr → Prop} {σ : St} {Q : VK} {x : Str} {id T : String}
theorem args_at (h : tE K mg W (callG g t) σ H Q) : tA K mg W t σ H fun vs H1 => AtN K mg W g vs H1 Q := by
  obtain ⟨w, s, hS, h⟩ := h
  refine ⟨w, s, hS, Post.mono (Post.split h) fun w1 rs s1 H1 _ _ ⟨hS1, e1, h1⟩ vs hvs => ?_⟩
  exact ⟨σ, w1, s1, rs, hS1, hvs, h1 _ e1.ln⟩
theorem se_callB (hc : CallS X W (.builtin id) g) (hg : Gl X x) (hm : X.mg x = none) (hv : bootBuiltins x = some (.builtin id)) (ha : SA X W (e :: es) t) (hn : x ≠ "__name__" := by decide) (hdb : (x == ("__debug__" : Str)) = false := by decide)
    (he : starEach (e :: es) X.env = (false, eval e X.env) :: starEach es X.env := by rfl) (hpl : (backTo pos (starEach es X.env)).any (·.1) = false := by rfl) : SE X W (.Call (.Name x p) (e :: es) [] pos) (callG g t) :=
  pe_imp (pe_callB hc hg hm hv ha hn hdb he hpl) fun σ H Q h => args_at h
theorem se_callTy (hc : CallS X W (.type T) g) (hg : Gl X x) (hm : X.mg x = none) (hv : bootBuiltins x = some (.type T)) (ha : SA X W (e :: es) t) (hn : x ≠ "__name__" := by decide) (hdb : (x == ("__debug__" : Str)) = false := by decide)
    (he : starEach (e :: es) X.env = (false, eval e X.env) :: starEach es X.env := by rfl) (hpl : (backTo pos (starEach es X.env)).any (·.1) = false := by rfl) : SE X W (.Call (.Name x p) (e :: es) [] pos) (callG g t) :=
  pe_imp (pe_callTy hc hg hm hv ha hn hdb he hpl) fun σ H Q h => args_at h
theorem RRs.one {n : Nat} {xs : List V} {r : R} (h : RRs K mg w n H xs [r]) : ∃ v, xs = [v] ∧ RR K mg w n H v r := by
  cases h with
  | cons h1 h2 => cases h2; exact ⟨_, rfl, h1⟩
theorem RRs.two {n : Nat} {xs : List V} {r r' : R} (h : RRs K mg w n H xs [r, r']) : ∃ v v', xs = [v, v'] ∧ RR K mg w n H v r ∧ RR K mg w n H v' r' := by
  cases h with
  | cons h1 h2 =>
    obtain ⟨v', rfl, h3⟩ := RRs.one h2
    exact ⟨_, v', rfl, h1, h3⟩
theorem RRs.three {n : Nat} {xs : List V} {r r' r'' : R} (h : RRs K mg w n H xs [r, r', r'']) : ∃ v v' v'', xs = [v, v', v''] ∧ RR K mg w n H v r ∧ RR K mg w n H v' r' ∧ RR K mg w n H v'' r'' := by
  cases h with
  | cons h1 h2 =>
    obtain ⟨v', v'', rfl, h3, h4⟩ := RRs.two h2
    exact ⟨_, v', v'', rfl, h1, h3, h4⟩
end
/-- one argument, by its data -/
def g1 (o : D → S → Res R) : List R → S → Res R := fun rs s => match rs with
  | [r] => match s.look r with
    | some d => o d s
    | none => .bad
  | _ => .bad
def g2 (o : D → D → S → Res R) : List R → S → Res R := fun rs s => match rs with
  | [r, r'] => match s.look r, s.look r' with
    | some d, some d' => o d d' s
    | _, _ => .bad
  | _ => .bad
def intsOf : List D → Option (List Int)
  | [] => some []
  | .int i :: r => (intsOf r).map (i :: ·)
  | _ :: _ => none
def boolsOf : List D → Option (List Bool)
  | [] => some []
  | .bool i :: r => (boolsOf r).map (i :: ·)
  | _ :: _ => none
def lenD : D → S → Res R := fun d s => match d with
  | .list ds => .ok (.sh (.int ds.length)) s
  | .tuple ds => .ok (.sh (.int ds.length)) s
  | .str x => if x.length ≤ sizeLine then .ok (.sh (.int x.length)) s else .bad
  | _ => .bad
def intD : D → S → Res R := fun d s => match d with
  | .int i => .ok (.sh (.int i)) s
  | .bool b => .ok (.sh (.int (if b then 1 else 0))) s
  | _ => .bad
def absD : D → S → Res R := fun d s => match d with
  | .int i => .ok (.sh (.int (if i < 0 then -i else i))) s
  | _ => .bad
def max2D : D → D → S → Res R := fun d e s => match d, e with
  | .int i, .int j => .ok (.sh (.int (if j > i then j else i))) s
  | _, _ => .bad
def min2D : D → D → S → Res R := fun d e s => match d, e with
  | .int i, .int j => .ok (.sh (.int (if j < i then j else i))) s
  | _, _ => .bad
def sumD : D → S → Res R := fun d s => match d with
  | .list ds => match intsOf ds with
    | some ns => .ok (.sh (.int ns.sum)) s
    | none => .bad
  | _ => .bad
def listMax : List Int → Int
  | [] => 0
  | a :: r => r.foldl (fun m x => if x > m then x else m) a
def listMin : List Int → Int
  | [] => 0
  | a :: r => r.foldl (fun m x => if x < m then x else m) a
def maxLD : D → S → Res R := fun d s => match d with
  | .list ds => match intsOf ds with
    | some (a :: r) => .ok (.sh (.int (listMax (a :: r)))) s
    | _ => .bad
  | _ => .bad
def minLD : D → S → Res R := fun d s => match d with
  | .list ds => match intsOf ds with
    | some (a :: r) => .ok (.sh (.int (listMin (a :: r)))) s
    | _ => .bad
  | _ => .bad
def allD : D → S → Res R := fun d s => match d with
  | .list ds => match boolsOf ds with
    | some bs => .ok (.sh (.bool (bs.all id))) s
    | none => .bad
  | _ => .bad
def anyD : D → S → Res R := fun d s => match d with
  | .list ds => match boolsOf ds with
    | some bs => .ok (.sh (.bool (bs.any id))) s
    | none => .bad
  | _ => .bad
def listD : D → S → Res R := fun d s => match d with
  | .list ds => .ok (.own s.ce.length) (s.push (.lv ds))
  | .tuple ds => .ok (.own s.ce.length) (s.push (.lv ds))
  | _ => .bad
def tupleD : D → S → Res R := fun d s => match d with
  | .list ds => .ok (.sh (.tuple ds)) s
  | .tuple ds => .ok (.sh (.tuple ds)) s
  | _ => .bad
def insI (x : Int) : List Int → List Int
  | [] => [x]
  | y :: r => if x ≤ y then x :: y :: r else y :: insI x r
def sortI : List Int → List Int
  | [] => []
  | x :: r => insI x (sortI r)
def sortD : D → S → Res R := fun d s => match d with
  | .list ds => match intsOf ds with
    | some ns => .ok (.own s.ce.length) (s.push (.lv ((sortI ns).map PyData.int)))
    | none => .bad
  | _ => .bad
def reprD : D → S → Res R := fun d s => if d.showable = true ∧ d.depth ≤ 50 ∧ d.shown.length ≤ sizeLine then .ok (.sh (.str d.shown)) s else .bad
def strD : D → S → Res R := fun d s => match d with
  | .int i => if i.natAbs.log2 < 1920 then .ok (.sh (.str (Str.ofString (toString i)))) s else .bad
  | .str x => .ok (.sh (.str x)) s
  | _ => .bad
def divmodD : D → D → S → Res R := fun d e s => match d, e with
  | .int i, .int j => if 0 < j ∧ j < 1073741824 then .ok (.sh (.tuple [.int (i / j), .int (i % j)])) s else .bad
  | _, _ => .bad
section
variable {X : Cx} {W : WX} {e a b c : Expr} {es rest : List Expr} {f f1 f2 f3 : ES} {u u1 u2 : TS'} {t : AS} {g : List R → S → Res R} {pos p : Pos} {K : PySem.W.Frag} {mg : Str → Option Value} {w w' : Wd} {s s' : S} {H H' : Hp} {Z : Addr → Prop} {σ : St} {Q : VK} {x : Str} {id T : String}
/-- from the rule over data -/
theorem cs1 {fv : Value} {o : D → S → Res R} (h : ∀ (pins : List (Addr × Obj)) (s0 : Shared) (σ0 : St) (H : Hp) (v : V) (us : List Value) (Q : VK) (σ : St) (w : Wd) (s : S) (d : D), Inv X pins σ0 H s0 → Vals [v] us → StR X.K X.mg w s σ H → DL X.K w.Z H v d →
      Post X.K X.mg W σ s.ce.length w s H (o d s) (QV X.K X.mg Q) → wpAny (model X.prog X.w) X.A (call fv us) (EP X pins σ0 Q) X.xe s0) : CallS X W fv (g1 o) := by
  intro pins s0 σ0 H xs us Q I r ⟨σ, w, s, rs, hS, hr, hp⟩
  unfold g1 at hp
  split at hp
  · rename_i r1
    obtain ⟨v, rfl, hv⟩ := hr.one
    split at hp
    · rename_i d el
      exact h pins s0 σ0 H v us Q σ w s d I r hS (look_ok hS el hv) hp
    · exact hp.elim
  · exact hp.elim
theorem cs2 {fv : Value} {o : D → D → S → Res R} (h : ∀ (pins : List (Addr × Obj)) (s0 : Shared) (σ0 : St) (H : Hp) (v v' : V) (us : List Value) (Q : VK) (σ : St) (w : Wd) (s : S) (d d' : D), Inv X pins σ0 H s0 → Vals [v, v'] us → StR X.K X.mg w s σ H → DL X.K w.Z H v d → DL X.K w.Z H v' d' →
      Post X.K X.mg W σ s.ce.length w s H (o d d' s) (QV X.K X.mg Q) → wpAny (model X.prog X.w) X.A (call fv us) (EP X pins σ0 Q) X.xe s0) : CallS X W fv (g2 o) := by
  intro pins s0 σ0 H xs us Q I r ⟨σ, w, s, rs, hS, hr, hp⟩
  unfold g2 at hp
  split at hp
  · rename_i r1 r2
    obtain ⟨v, v', rfl, hv, hv'⟩ := hr.two
    split at hp
    · rename_i d d' el el'
      exact h pins s0 σ0 H v v' us Q σ w s d d' I r hS (look_ok hS el hv) (look_ok hS el' hv') hp
    · exact hp.elim
  · exact hp.elim
theorem c_len : CallS X W (.builtin "len") (g1 lenD) := cs1 fun pins s0 σ0 H v us Q σ w s d I r hS hd hp => by
  unfold lenD at hp
  split at hp
  · rename_i ds
    obtain ⟨a, xs, rfl, l, z⟩ := hd.list
    have q := hp.sh hS (Nat.le_refl _) (.int _)
    rw [← z.length] at q
    exact call_len_seq pins s0 σ0 H _ us Q I r ⟨a, xs, rfl, .inl l.sq, q⟩
  · rename_i ds
    obtain ⟨a, xs, rfl, l, z⟩ := hd.tup
    have q := hp.sh hS (Nat.le_refl _) (.int _)
    rw [← z.length] at q
    exact call_len_seq pins s0 σ0 H _ us Q I r ⟨a, xs, rfl, .inr l, q⟩
  · rename_i x
    split at hp
    · rename_i hz
      have := hd.str
      subst this
      exact call_len_str pins s0 σ0 H _ us Q I r ⟨x, rfl, hz, hp.sh hS (Nat.le_refl _) (.int _)⟩
    · exact hp.elim
  · exact hp.elim
theorem c_int : CallS X W (.type "int") (g1 intD) := cs1 fun pins s0 σ0 H v us Q σ w s d I r hS hd hp => by
  unfold intD at hp
  split at hp
  · rename_i i
    have := hd.int
    subst this
    exact call_int1 pins s0 σ0 H _ us Q I r (.inl ⟨i, rfl, hp.sh hS (Nat.le_refl _) (.int _)⟩)
  · rename_i b
    have := hd.bool
    subst this
    exact call_int1 pins s0 σ0 H _ us Q I r (.inr ⟨b, rfl, hp.sh hS (Nat.le_refl _) (.int _)⟩)
  · exact hp.elim
theorem c_abs : CallS X W (.builtin "abs") (g1 absD) := cs1 fun pins s0 σ0 H v us Q σ w s d I r hS hd hp => by
  unfold absD at hp
  split at hp
  · rename_i i
    have := hd.int
    subst this
    exact call_abs pins s0 σ0 H _ us Q I r ⟨i, rfl, hp.sh hS (Nat.le_refl _) (.int _)⟩
  · exact hp.elim
theorem c_max2 (hc : X.calm = true) : CallS X W (.builtin "max") (g2 max2D) := cs2 fun pins s0 σ0 H v v' us Q σ w s d d' I r hS hd hd' hp => by
  unfold max2D at hp
  split at hp
  · rename_i i j
    have e1 := hd.int
    have e2 := hd'.int
    subst e1 e2
    exact call_max2 hc pins s0 σ0 H _ us Q I r ⟨i, j, rfl, hp.sh hS (Nat.le_refl _) (.int _)⟩
  · exact hp.elim
theorem c_min2 (hc : X.calm = true) : CallS X W (.builtin "min") (g2 min2D) := cs2 fun pins s0 σ0 H v v' us Q σ w s d d' I r hS hd hd' hp => by
  unfold min2D at hp
  split at hp
  · rename_i i j
    have e1 := hd.int
    have e2 := hd'.int
    subst e1 e2
    exact call_min2 hc pins s0 σ0 H _ us Q I r ⟨i, j, rfl, hp.sh hS (Nat.le_refl _) (.int _)⟩
  · exact hp.elim
theorem boolsOf_v : ∀ {ds : List D} {ns : List Bool} {vs : List V}, boolsOf ds = some ns → Dens K Z H vs ds → vs = ns.map V.bl
  | [], ns, vs, h, z => by
    cases z
    have : [] = ns := Option.some.inj h
    subst this
    rfl
  | d :: r, ns, vs, h, z => by
    cases z with
    | cons z1 z2 =>
      cases d with
      | bool i =>
        have h' : (boolsOf r).map (i :: ·) = some ns := h
        cases e : boolsOf r with
        | none => rw [e] at h'; cases h'
        | some ms =>
          rw [e] at h'
          cases h'
          cases z1
          rw [List.map_cons, boolsOf_v e z2]
      | _ => cases h
theorem c_all (hc : X.calm = true) : CallS X W (.builtin "all") (g1 allD) := cs1 fun pins s0 σ0 H v us Q σ w s d I r hS hd hp => by
  unfold allD at hp
  split at hp
  · rename_i ds
    split at hp
    · rename_i ns en
      obtain ⟨a, xs, rfl, l, z⟩ := hd.list
      have ez := boolsOf_v en z
      subst ez
      exact cr_all hc pins s0 σ0 H _ us Q I r ⟨a, ns, rfl, l.sq, hp.sh hS (Nat.le_refl _) (.bl _)⟩
    · exact hp.elim
  · exact hp.elim
theorem c_list : CallS X W (.type "list") (g1 listD) := cs1 fun pins s0 σ0 H v us Q σ w s d I r hS hd hp => by
  unfold listD at hp
  split at hp
  · rename_i ds
    obtain ⟨a, xs, rfl, l, z⟩ := hd.list
    exact call_list_of pins s0 σ0 H _ us Q I r ⟨a, xs, rfl, .inl l.sq, fun p hn => hp.new hS (Nat.le_refl _) z hn⟩
  · rename_i ds
    obtain ⟨a, xs, rfl, l, z⟩ := hd.tup
    exact call_list_of pins s0 σ0 H _ us Q I r ⟨a, xs, rfl, .inr l, fun p hn => hp.new hS (Nat.le_refl _) z hn⟩
  · exact hp.elim
end
end E
/-! E5: sorted, repr, isinstance; methods of lists. -/
namespace E
open PySem PySem.Spec PyProof.Rows L2

section
variable {X : Cx} {W : WX} {e a b c : Expr} {es rest : List Expr} {f f1 f2 f3 : ES} {u u1 u2 : TS'} {t : AS} {g : List R → S → Res R} {pos p : Pos} {K : PySem.W.Frag} {mg : Str → Option Value} {w w' : Wd} {s s' : S} {H H' : Hp} {Z : Addr → Prop} {σ : St} {Q : VK} {x : Str} {id T : String}
theorem c_str : CallS X W (.type "str") (g1 strD) := cs1 fun pins s0 σ0 H v us Q σ w s d I r hS hd hp => by
  unfold strD at hp
  split at hp
  · rename_i i
    split at hp
    · rename_i hz
      have := hd.int
      subst this
      exact call_str_int pins s0 σ0 H _ us Q I r ⟨i, rfl, hz, hp.sh hS (Nat.le_refl _) (.str _)⟩
    · exact hp.elim
  · rename_i z
    have := hd.str
    subst this
    exact SkE.call_str_str pins s0 σ0 H _ us Q I r ⟨z, rfl, hp.sh hS (Nat.le_refl _) (.str _)⟩
  · exact hp.elim
theorem c_repr (hg : X.A.guards = some []) (hu : X.A.units + 64 < cLine) : CallS X W (.builtin "repr") (g1 reprD) := cs1 fun pins s0 σ0 H v us Q σ w s d I r hS hd hp => by
  unfold reprD at hp
  split at hp
  · rename_i hc
    obtain ⟨c1, c3, c4⟩ := hc
    obtain ⟨u, rfl, ru⟩ := vals1 r
    have q := hp.sh hS (Nat.le_refl _) (.str _)
    cases d with
    | none =>
      have := hd.none
      subst this
      cases ru
      exact PySem.P.repr_of_none ⟨.str _, H, I.tok _, ⟨_, rfl⟩, q⟩
    | bool b =>
      have := hd.bool
      subst this
      cases ru
      exact PySem.P.repr_of_bool ⟨.str _, H, I.tok _, ⟨_, rfl⟩, q⟩
    | int i =>
      have := hd.int
      subst this
      have hz : i.natAbs.log2 < 1920 := by simpa [PyData.showable] using c1
      obtain ⟨t, rfl⟩ := ru
      exact PySem.P.repr_of_int hz ⟨.str _, H, I.tok _, ⟨_, rfl⟩, q⟩
    | str z =>
      have := hd.str
      subst this
      obtain ⟨t, rfl⟩ := ru
      exact PySem.P.repr_of_str ⟨.str _, H, I.tok _, ⟨_, rfl⟩, q⟩ c4
    | list ds =>
      obtain ⟨a, xs, rfl, l, z⟩ := hd.list
      cases ru
      obtain ⟨as, hr, hm⟩ := hd.reads I hS.sm rfl
      exact repr_of_reads' hr c1 (fun _ => hm) hg (by omega) (fun _ _ k => k) (fun h' u tk k => ⟨.str _, H, I.kept k, ⟨_, rfl⟩, q⟩) c4
    | tuple ds =>
      obtain ⟨a, xs, rfl, l, z⟩ := hd.tup
      cases ru
      obtain ⟨as, hr, hm⟩ := hd.reads I hS.sm rfl
      exact repr_of_reads' hr c1 (fun _ => hm) hg (by omega) (fun _ _ k => k) (fun h' u tk k => ⟨.str _, H, I.kept k, ⟨_, rfl⟩, q⟩) c4
    | dict kv =>
      obtain ⟨a, xs, rfl, l, z⟩ := hd.dict
      cases ru
      obtain ⟨as, hr, hm⟩ := hd.reads I hS.sm rfl
      exact repr_of_reads' hr c1 (fun _ => hm) hg (by omega) (fun _ _ k => k) (fun h' u tk k => ⟨.str _, H, I.kept k, ⟨_, rfl⟩, q⟩) c4
  · exact hp.elim
def min3D : D → D → D → S → Res R := fun d e g s => match d, e, g with
  | .int i, .int j, .int k => .ok (.sh (.int (if k < (if j < i then j else i) then k else (if j < i then j else i)))) s
  | _, _, _ => .bad
def g3 (o : D → D → D → S → Res R) : List R → S → Res R := fun rs s => match rs with
  | [r, r', r''] => match s.look r, s.look r', s.look r'' with
    | some d, some d', some d'' => o d d' d'' s
    | _, _, _ => .bad
  | _ => .bad
/-! ### isinstance -/
inductive Ty' where
  | int | bool | str | list | tuple | dict
def Ty'.nm : Ty' → String
  | .int => "int" | .bool => "bool" | .str => "str" | .list => "list" | .tuple => "tuple" | .dict => "dict"
def isD : Ty' → D → Bool
  | .int, .int _ => true
  | .int, .bool _ => true
  | .bool, .bool _ => true
  | .str, .str _ => true
  | .list, .list _ => true
  | .tuple, .tuple _ => true
  | .dict, .dict _ => true
  | _, _ => false
def isiR (T : Ty') : R → S → Res R := fun r s => match s.look r with
  | some d => .ok (.sh (.bool (isD T d))) s
  | none => .bad
def tyD : D → String
  | .none => "NoneType" | .bool _ => "bool" | .int _ => "int" | .str _ => "str" | .list _ => "list" | .tuple _ => "tuple" | .dict _ => "dict"
theorem lstA_ty (l : LstA K H a' xs') : TyX K H (.ref a') (.type "list") := by
  rcases l with l | ⟨o, l⟩ | ⟨its, n, l, _, _⟩
  · exact .base (.lst l)
  · exact .base (.frz l)
  · exact .kList l rfl
theorem sqT_ty {a' : Addr} {xs' : List V} (l : SqT K H a' xs') : TyX K H (.ref a') (.type "tuple") := by
  rcases l with (l | ⟨o, l⟩) | ⟨o, its, n, l, c, _, _, _⟩
  · exact .base (.tup l)
  · exact .fTuple l
  · exact .kTuple l c
theorem DL.ty {v : V} {d : D} (h : DL K Z H v d) : TyX K H v (.type (tyD d)) := by
  cases d with
  | none => rw [h.none]; exact .base .non
  | bool b => rw [h.bool]; exact .base (.bl b)
  | int i => rw [h.int]; exact .base (.int i)
  | str z => rw [h.str]; exact .base (.str z)
  | list ds => obtain ⟨a, xs, rfl, l, z⟩ := h.list; exact lstA_ty l
  | tuple ds => obtain ⟨a, xs, rfl, l, z⟩ := h.tup; exact sqT_ty l
  | dict kv => obtain ⟨a, kvs, rfl, l, z⟩ := h.dict; exact .base (.dK l.2)
/-- the classes that are asked for -/
theorem known (K : PySem.W.Frag) (T : Ty') (d : D) : PySem.W.kitOne K (.type (tyD d)) (.type T.nm) = some (isD T d) := by
  refine kit_ty ?_
  cases T <;> cases d <;> (simp only [tyD, Ty'.nm, isD]; decide +kernel)
theorem se_isi {y : Str} {p2 : Pos} {T : Ty'} (hg : Gl X "isinstance") (hm : X.mg "isinstance" = none) (hgy : Gl X y) (hmy : X.mg y = none) (hvy : bootBuiltins y = some (.type T.nm)) (ha : SE X W a f) (hny : y ≠ "__name__" := by decide) (hdb : (y == ("__debug__" : Str)) = false := by decide)
    (he : starEach [a, .Name y p2] X.env = (false, eval a X.env) :: starEach [.Name y p2] X.env := by rfl) (he2 : starEach [.Name y p2] X.env = (false, eval (.Name y p2) X.env) :: starEach [] X.env := by rfl) (hpl : (backTo pos (starEach [.Name y p2] X.env)).any (·.1) = false := by rfl) :
    SE X W (.Call (.Name "isinstance" p) [a, .Name y p2] [] pos) (un1 (isiR T) f) := by
  refine pe_imp (pe_callB call_isi hg hm (by decide +kernel) (pa_cons ha (pa_cons (pe_bltn (v := .ty T.nm) hgy hmy hvy rfl hny hdb) pa_nil he2) he) (by decide) (by decide) he hpl) fun σ H Q ⟨w, s, hS, h⟩ => ?_
  refine ⟨w, s, hS, Post.mono (Post.split h) fun w1 r1 s1 H1 _ _ ⟨hS1, e1, h1⟩ v hv => ?_⟩
  have h1 := h1 s1.ce.length e1.ln
  unfold isiR at h1
  split at h1
  · rename_i d el
    exact ⟨v, .ty T.nm, .type (tyD d), .type T.nm, isD T d, rfl, .ty T.nm, (look_ok hS1 el hv).ty, known _ T d, h1.sh hS1 (Nat.le_refl _) (.bl _)⟩
  · exact h1.elim
end

/-! ### methods -/
def S.isL (s : S) (r : R) : Bool := match s.look r with
  | some (.list _) => true
  | _ => false
def methS (g : R → List R → S → Res R) (f : ES) (t : AS) : ES := fun s => (f s).bind fun r s1 => if s1.isL r = true then (t s1).bind fun rs s2 => g r rs s2 else .bad
def AtM (K : PySem.W.Frag) (mg : Str → Option Value) (W : WX) (g : R → List R → S → Res R) : V → List V → Hp → VK → Prop := fun x xs H Q =>
  ∃ σ w s r rs, StR K mg w s σ H ∧ RR K mg w s.ce.length H x r ∧ RRs K mg w s.ce.length H xs rs ∧ Post K mg W σ s.ce.length w s H (g r rs s) (QV K mg Q)
def appR : R → List R → S → Res R := fun r rs s => match r, rs with
  | .own c, [q] => match s.frz q with
    | some (d, s1) => match s1.cellAt c with
      | .lv ds => if ds.length < sizeLine then .ok (.sh .none) (s1.put c (.lv (ds ++ [d]))) else .bad
      | _ => .bad
    | none => .bad
  | _, _ => .bad
def extR : R → List R → S → Res R := fun r rs s => match r, rs with
  | .own c, [q] => match s.look q, s.cellAt c with
    | some (.list es), .lv ds => if ds.length + es.length ≤ sizeLine then .ok (.sh .none) (s.put c (.lv (ds ++ es))) else .bad
    | _, _ => .bad
  | _, _ => .bad
def popR : R → List R → S → Res R := fun r rs s => match r, rs with
  | .own c, [] => match s.cellAt c with
    | .lv ds => match ds[ds.length - 1]? with
      | some d => .ok (.sh d) (s.put c (.lv ds.dropLast))
      | none => .bad
    | _ => .bad
  | _, _ => .bad
def popAtR : R → List R → S → Res R := fun r rs s => match r, rs with
  | .own c, [.sh (.int i)] => match s.cellAt c with
    | .lv ds => if 0 ≤ i ∧ i < ds.length ∧ i < 2 ^ 62 then match ds[i.toNat]? with
      | some d => .ok (.sh d) (s.put c (.lv (ds.eraseIdx i.toNat)))
      | none => .bad else .bad
    | _ => .bad
  | _, _ => .bad
section
variable {X : Cx} {W : WX} {e a b c o : Expr} {es rest : List Expr} {f f1 f2 f3 : ES} {u u1 u2 : TS'} {t : AS} {g : R → List R → S → Res R} {pos p apos cpos : Pos} {K : PySem.W.Frag} {mg : Str → Option Value} {w w' : Wd} {s s' : S} {H H' : Hp} {Z : Addr → Prop} {σ : St} {Q : VK} {x name : Str} {id T : String}
theorem isL_ty {r : R} {v : V} (hS : StR K mg w s σ H) (h : s.isL r = true) (hr : RR K mg w s.ce.length H v r) : tyV K "list" v H := by
  unfold S.isL at h
  split at h
  · rename_i ds el
    obtain ⟨a, xs, rfl, l, z⟩ := (look_ok hS el hr).list
    exact .inl ⟨rfl, xs, l.sq⟩
  · cases h
theorem meth_at (h : tE K mg W (methS g f t) σ H Q) : tBM K "list" (AtM K mg W g) (tE K mg W f) (tA K mg W t) σ H Q := by
  obtain ⟨w, s, hS, h⟩ := h
  refine ⟨w, s, hS, Post.mono (Post.split h) fun w1 r1 s1 H1 _ _ ⟨hS1, e1, h1⟩ v hv => ?_⟩
  have h1 := h1 s1.ce.length e1.ln
  split at h1
  · rename_i hl
    refine ⟨isL_ty hS1 hl hv, w1, s1, hS1, Post.mono (Post.split h1) fun w2 rs s2 H2 _ _ ⟨hS2, e2, h2⟩ vs hvs => ?_⟩
    exact ⟨σ, w2, s2, r1, rs, hS2, RR.stay hS1 e2 (Nat.le_refl _) hv, hvs, h2 _ e2.ln⟩
  · exact h1.elim
theorem se_meth (slot : Slot "list" name id) (hty : typeOf (.builtin id) = pure (.type "method_descriptor")) (hm : MtR X id (AtM X.K X.mg W g)) (ho : SE X W o f) (ha : SA X W (e :: es) t)
    (hbase : attributeBase o name X.env (eval o X.env) = eval o X.env := by rfl)
    (hfew : ((backTo cpos (starEach (e :: es) X.env)).all (fun x => !x.1) && (backToKw cpos (keywordEach [] X.env)).all (fun x => x.1.isSome) && decide ((e :: es).length + ([] : List Keyword).length + (if ([] : List Keyword).isEmpty then 0 else 1) < 30)) = true := by rfl)
    (hline : (apos.endLine == cpos.line) = true := by rfl) (hs : starEach (e :: es) X.env = (false, eval e X.env) :: starEach es X.env := by rfl) (hplain : (backTo cpos (starEach es X.env)).any (·.1) = false := by rfl) :
    SE X W (.Call (.Attribute o name apos) (e :: es) [] cpos) (methS g f t) :=
  pe_imp (pe_bm PySem.F.plainAttrs_list slot hty hm ho ha hbase hfew hline hs hplain) fun σ H Q h => meth_at h
/-- a list in a cell is changed, behind a built-in's call -/
theorem Post.wrote {r : R} {c0 : Nat} {ds ds' : List D} {xs : List V} (hp : Post K mg W σ p0 w s H (.ok r (s.put c0 (.lv ds'))) (QV K mg Q)) (hS : StR K mg w s σ H) (hp0 : p0 ≤ s.ce.length) (hc : s.ce[c0]? = some (.lv ds)) (hd : Dens K w.Z H xs ds') {v : V}
    (hv : ∀ H', Stay w.Z H w.Z H' → RR K mg w s.ce.length H' v r) : Q v (upd H (w.ρ c0) (.lst xs)) := by
  obtain ⟨h1, h2⟩ := hS.write hc hd
  refine hp _ _ h1 (h2.mono hp0) v ?_
  rw [put_len]
  exact hv _ (hS.stay h2)
theorem m_append : MtR X "list.append" (AtM X.K X.mg W appR) := by
  intro pins s0 σ0 H x xs v us Q I rx rv ⟨σ, w, s, r, rs, hS, h1, h2, hp⟩
  unfold appR at hp
  split at hp
  · rename_i c q
    obtain ⟨vq, rfl, hq⟩ := h2.one
    split at hp
    · rename_i d s1 ef
      split at hp
      · rename_i ds ec
        split at hp
        · rename_i hz
          obtain ⟨w1, hS1, e1, d1, l1⟩ := frz_ok hS ef hq
          have h1' := RR.stay hS e1 (Nat.le_refl _) h1
          obtain ⟨rfl, hlt⟩ := h1'
          have hc := cellAt_lv ec
          obtain ⟨_, ys, hH, hd⟩ := hS1.cl c _ hc
          refine mt_append pins s0 σ0 H _ _ v us Q I rx rv ⟨w1.ρ c, ys, vq, rfl, rfl, hH, by rw [hd.length]; exact hz, ?_⟩
          have hd' := hd.append (Dens.cons d1 .nil)
          exact (hp.move e1 (Nat.le_refl _)).wrote hS1 (by rw [l1]; exact Nat.le_refl _) hc hd' fun _ _ => .non
        · exact hp.elim
      · exact hp.elim
    · exact hp.elim
  · exact hp.elim
theorem Dens.dropLast : ∀ {vs : List V} {ds : List D}, Dens K Z H vs ds → Dens K Z H vs.dropLast ds.dropLast := fun {vs ds} h => by
  rw [List.dropLast_eq_take, List.dropLast_eq_take, h.length]
  exact h.take _
theorem Dens.eraseIdx : ∀ {vs : List V} {ds : List D} (i : Nat), Dens K Z H vs ds → Dens K Z H (vs.eraseIdx i) (ds.eraseIdx i)
  | _, _, _, .nil => .nil
  | _, _, 0, .cons _ t => t
  | _, _, i + 1, .cons h t => .cons h (Dens.eraseIdx i t)
end
end E
/-! E6: statements. -/
namespace E
open PySem PySem.Spec PyProof.Rows L2

/-- behind a statement -/
def PostS (K : PySem.W.Frag) (mg : Str → Option Value) (W : WX) (p : Nat) (w : Wd) (s : S) (H : Hp) (r : Res Fl) (B : Ends) : Prop :=
  match r with
  | .ok .nx s' => ∀ w' σ' H', StR K mg w' s' σ' H' → Ext p w s H w' s' H' → B.nx σ' H'
  | .ok .bk s' => ∀ w' σ' H', StR K mg w' s' σ' H' → Ext p w s H w' s' H' → B.bk σ' H'
  | .ok .ct s' => ∀ w' σ' H', StR K mg w' s' σ' H' → Ext p w s H w' s' H' → B.ct σ' H'
  | .ok (.rt r) s' => ∀ w' σ' H' v, StR K mg w' s' σ' H' → Ext p w s H w' s' H' → RR K mg w' s'.ce.length H' v r → B.rt v H'
  | .exc x s' => ∀ w' σ' H' cls dd, StR K mg w' s' σ' H' → Ext p w s H w' s' H' → ExR K mg w' H' x cls dd → W cls dd σ' H'
  | .bad => False
def tS (K : PySem.W.Frag) (mg : Str → Option Value) (W : WX) (f : SS) : TS := fun B σ H => ∃ w s, StR K mg w s σ H ∧ PostS K mg W s.np w s H (f s) B
def SSt (X : Cx) (W : WX) (st : Stmt) (f : SS) : Prop := PS X st (tS X.K X.mg W f)
def SB (X : Cx) (W : WX) (st : List Stmt) (f : SS) : Prop := PSs X st (tS X.K X.mg W f)
section
variable {K : PySem.W.Frag} {mg : Str → Option Value} {W : WX} {w w' w₂ : Wd} {s s' s₂ : S} {H H' H₂ : Hp} {σ : St} {p q : Nat} {B B' : Ends}
theorem PostS.move {r : Res Fl} (h : PostS K mg W p w s H r B) (e : Ext p w s H w' s' H') (hq : p ≤ q) : PostS K mg W q w' s' H' r B := by
  cases r with
  | ok a s2 =>
    cases a with
    | nx => exact fun w2 σ2 H2 h2 e2 => h w2 σ2 H2 h2 (e.trans e2 hq)
    | bk => exact fun w2 σ2 H2 h2 e2 => h w2 σ2 H2 h2 (e.trans e2 hq)
    | ct => exact fun w2 σ2 H2 h2 e2 => h w2 σ2 H2 h2 (e.trans e2 hq)
    | rt r => exact fun w2 σ2 H2 v h2 e2 => h w2 σ2 H2 v h2 (e.trans e2 hq)
  | exc x s2 => exact fun w2 σ2 H2 cls dd h2 e2 => h w2 σ2 H2 cls dd h2 (e.trans e2 hq)
  | bad => exact h
theorem PostS.mono {r : Res Fl} (h : PostS K mg W p w s H r B) (h1 : ∀ σ H, B.nx σ H → B'.nx σ H) (h2 : ∀ v H, B.rt v H → B'.rt v H) (h3 : ∀ σ H, B.bk σ H → B'.bk σ H) (h4 : ∀ σ H, B.ct σ H → B'.ct σ H) : PostS K mg W p w s H r B' := by
  cases r with
  | ok a s2 =>
    cases a with
    | nx => exact fun w2 σ2 H2 g2 e2 => h1 _ _ (h w2 σ2 H2 g2 e2)
    | bk => exact fun w2 σ2 H2 g2 e2 => h3 _ _ (h w2 σ2 H2 g2 e2)
    | ct => exact fun w2 σ2 H2 g2 e2 => h4 _ _ (h w2 σ2 H2 g2 e2)
    | rt r => exact fun w2 σ2 H2 v g2 e2 g3 => h2 _ _ (h w2 σ2 H2 v g2 e2 g3)
  | exc x s2 => exact h
  | bad => exact h
/-- a statement whose first part is an expression -/
theorem PostS.split {α : Type} {r : Res α} {g : α → S → Res Fl} (h : PostS K mg W p w s H (r.bind g) B) (hS : StR K mg w s σ H) (hp : p ≤ s.ce.length) :
    Post K mg W σ s.ce.length w s H r (fun w1 a s1 H1 => StR K mg w1 s1 σ H1 ∧ Ext s.ce.length w s H w1 s1 H1 ∧ PostS K mg W p w1 s1 H1 (g a s1) B) := by
  cases r with
  | ok a s1 => exact fun w1 H1 h1 e1 => ⟨h1, e1, PostS.move (p := p) h (e1.mono hp) (Nat.le_refl _)⟩
  | exc x s1 => exact fun w1 H1 cls dd h1 e1 q => h w1 σ H1 cls dd h1 (e1.mono hp) q
  | bad => exact h
theorem StR.np_le (h : StR K mg w s σ H) : s.np ≤ s.ce.length := by have := h.bs; omega
end

/-! ### the ends of statements: what was only held meanwhile is forgotten -/
def S.base (s : S) : Nat := s.np + s.sl.length
def S.tr (s : S) : S := { s with ce := s.ce.take (s.np + s.sl.length) }
section
variable {K : PySem.W.Frag} {mg : Str → Option Value} {W : WX} {w w' w₂ : Wd} {s s' s₂ : S} {H H' H₂ : Hp} {σ : St} {p q : Nat} {B B' : Ends}
theorem tr_get {i : Nat} {c : Cell} (e : s.tr.ce[i]? = some c) : i < s.base ∧ s.ce[i]? = some c := by
  have e' : (s.ce.take s.base)[i]? = some c := e
  rw [List.getElem?_take] at e'
  split at e'
  · rename_i h; exact ⟨h, e'⟩
  · cases e'
theorem tr_of {i : Nat} {c : Cell} (hi : i < s.base) (e : s.ce[i]? = some c) : s.tr.ce[i]? = some c := by
  show (s.ce.take s.base)[i]? = some c
  rw [List.getElem?_take, if_pos hi]
  exact e
theorem tr_len (h : StR K mg w s σ H) : s.tr.ce.length = s.base := by
  show (s.ce.take s.base).length = s.base
  rw [List.length_take]
  have := h.bs
  unfold S.base
  omega
theorem StR.tr (h : StR K mg w s σ H) : StR K mg w s.tr σ H where
  cl := fun i c e => h.cl i c (tr_get e).2
  inj := fun i j x y e1 e2 => h.inj i j x y (tr_get e1).2 (tr_get e2).2
  sl := fun i r e => by
    obtain ⟨v, e1, e2⟩ := h.sl i r e
    refine ⟨v, e1, ?_⟩
    cases r with
    | sh d => exact e2
    | ex _ => exact e2
    | own c => exact ⟨e2.1, by rw [tr_len h]; exact h.sb i c e⟩
  sn := h.sn
  zt := h.zt
  sb := h.sb
  bs := by rw [tr_len h]; exact Nat.le_refl _
  lb := fun i ds e => h.lb i ds (tr_get e).2
  sm := h.sm
  tt := h.tr_keep (s' := s.tr) .refl (fun i d e => ⟨(tr_get e).2, rfl, rfl⟩) (fun b _ o q => q) (fun _ _ z => z) fun b _ j x e o q => ⟨j, x, (tr_get e).2, o, q⟩
theorem Ext.tr (h : StR K mg w s σ H) : Ext s.np w s H w s.tr H :=
  ⟨fun _ h => h, fun _ h => .inl h, fun _ _ h _ => h, fun _ => lz2 (fun i ds e c q => .inl (.inl ⟨i, ds, (tr_get e).2, c, q⟩)) (fun ⟨i, d, e, m⟩ => .inl (.inr ⟨i, d, (tr_get e).2, m⟩)), fun _ _ => rfl, by rw [tr_len h]; unfold S.base; omega, fun i ds e => ⟨tr_of (h.lb i ds e) e, rfl⟩, rfl, rfl⟩
end

/-! ### assignment -/
/-- no other place holds cell t -/
def S.loneC (s : S) (i t : Nat) : Bool := (List.range s.sl.length).all fun j => j == i || match s.sl[j]? with
  | some (some (.own c)) => c != t
  | _ => true
def asg0 (i : Nat) (r : R) (s : S) : Res Unit :=
  match r with
  | .sh d => if i < s.sl.length then .ok () { s with sl := s.sl.set i (some (.sh d)) } else .bad
  | .ex x => if i < s.sl.length then .ok () { s with sl := s.sl.set i (some (.ex x)) } else .bad
  | .own c =>
    if c < s.base then (if i < s.sl.length then .ok () { s with sl := s.sl.set i (some (.own c)) } else .bad)
    else match s.cellAt c with
      | .lv ds => match s.cellAt (s.np + i) with
        | .lk _ => .bad
        | _ => if i < s.sl.length ∧ s.loneC i (s.np + i) = true then .ok () { s with sl := s.sl.set i (some (.own (s.np + i))), ce := (s.ce.set (s.np + i) (.lv ds)).set c .dead } else .bad
      | .dv ds => match s.cellAt (s.np + i) with
        | .lk _ => .bad
        | _ => if i < s.sl.length ∧ s.loneC i (s.np + i) = true then .ok () { s with sl := s.sl.set i (some (.own (s.np + i))), ce := (s.ce.set (s.np + i) (.dv ds)).set c .dead } else .bad
      | .tr d => match s.cellAt (s.np + i) with
        | .lk _ => .bad
        | _ => if i < s.sl.length ∧ s.loneC i (s.np + i) = true then .ok () { s with sl := s.sl.set i (some (.own (s.np + i))), ce := (s.ce.set (s.np + i) (.tr d)).set c .dead } else .bad
      | .fz ds => if i < s.sl.length then .ok () { s with sl := s.sl.set i (some (.sh (.list ds))) } else .bad
      | _ => .bad
section
variable {K : PySem.W.Frag} {mg : Str → Option Value} {W : WX} {w w' w₂ : Wd} {s s' s₂ : S} {H H' H₂ : Hp} {σ : St} {p q : Nat} {B B' : Ends}
theorem set_sl (h : StR K mg w s σ H) {i : Nat} {r : R} {v : V} (hr : RR K mg w s.ce.length H v r) (hb : ∀ c, r = .own c → c < s.np + s.sl.length) : StR K mg w { s with sl := s.sl.set i (some r) } (σ.set i (some v)) H where
  cl := h.cl
  inj := h.inj
  sl := fun j q e => by
    have e' : (s.sl.set i (some r))[j]? = some (some q) := e
    by_cases hj : i = j
    · subst hj
      by_cases hi : i < s.sl.length
      · rw [List.getElem?_set_self hi] at e'
        cases e'
        exact ⟨v, List.getElem?_set_self (Nat.lt_of_lt_of_le hi h.sn), hr⟩
      · rw [List.getElem?_eq_none (by simpa using hi)] at e'
        cases e'
    · rw [List.getElem?_set_ne hj] at e'
      obtain ⟨u, e1, e2⟩ := h.sl j q e'
      exact ⟨u, by rw [List.getElem?_set_ne hj]; exact e1, e2⟩
  sn := by simp only [List.length_set]; exact h.sn
  zt := h.zt
  sb := fun j c e => by
    have e' : (s.sl.set i (some r))[j]? = some (some (.own c)) := e
    show c < s.np + (s.sl.set i (some r)).length
    rw [List.length_set]
    by_cases hj : i = j
    · subst hj
      by_cases hi : i < s.sl.length
      · rw [List.getElem?_set_self hi] at e'
        exact hb c (Option.some.inj (Option.some.inj e'))
      · rw [List.getElem?_eq_none (by simpa using hi)] at e'
        cases e'
    · rw [List.getElem?_set_ne hj] at e'
      exact h.sb j c e'
  bs := by simp only [List.length_set]; exact h.bs
  lb := fun j ds e => by simp only [List.length_set]; exact h.lb j ds e
  sm := h.sm
  tt := fun j d e => let T := h.tt j d e; ⟨T.ow, T.nd, T.nz, T.no, T.nt⟩
theorem ext_sl {sl' : List (Option R)} (hl : sl'.length = s.sl.length) (hp : p ≤ s.ce.length) : Ext p w s H w { s with sl := sl' } H :=
  ⟨fun _ h => h, fun _ h => .inl h, fun _ _ h _ => h, fun _ h => .inl h, fun _ _ => rfl, hp, fun _ _ h => ⟨h, rfl⟩, rfl, hl⟩
theorem asg0_ok (h : StR K mg w s σ H) {i : Nat} {r : R} {v : V} (hr : RR K mg w s.ce.length H v r) (e : asg0 i r s = .ok () s') :
    ∃ w', StR K mg w' s' (σ.set i (some v)) H ∧ Ext s.np w s H w' s' H ∧ (∀ c, c ≠ s.np + i → w'.ρ c = w.ρ c) ∧ s'.ce.length = s.ce.length ∧ (∀ c, s.base ≤ c → r ≠ .own c → s'.ce[c]? = s.ce[c]?) := by
  have hnp := h.np_le
  unfold asg0 at e
  cases r with
  | sh d =>
    simp only at e
    split at e
    · cases e
      exact ⟨w, set_sl h hr (fun c q => by cases q), ext_sl (by simp) hnp, fun _ _ => rfl, rfl, fun _ _ _ => rfl⟩
    · cases e
  | ex d =>
    simp only at e
    split at e
    · cases e
      exact ⟨w, set_sl h hr (fun c q => by cases q), ext_sl (by simp) hnp, fun _ _ => rfl, rfl, fun _ _ _ => rfl⟩
    · cases e
  | own c =>
    simp only at e
    obtain ⟨rfl, hc⟩ := hr
    split at e
    · rename_i hcb
      split at e
      · cases e
        exact ⟨w, set_sl h ⟨rfl, hc⟩ (fun c' q => by cases q; exact hcb), ext_sl (by simp) hnp, fun _ _ => rfl, rfl, fun _ _ _ => rfl⟩
      · cases e
    · rename_i hcb
      have hcb : ¬ c < s.np + s.sl.length := hcb
      have key : ∀ x0 : Cell, (x0.chg ∨ ∃ d, x0 = .tr d) → s.ce[c]? = some x0 → s.cellAt (s.np + i) ≠ .lk [] → (∀ ds', s.cellAt (s.np + i) ≠ .lk ds') → (i < s.sl.length ∧ s.loneC i (s.np + i) = true) → s' = { s with sl := s.sl.set i (some (.own (s.np + i))), ce := (s.ce.set (s.np + i) x0).set c .dead } →
          ∃ w', StR K mg w' s' (σ.set i (some (.ref (w.ρ c)))) H ∧ Ext s.np w s H w' s' H ∧ (∀ c, c ≠ s.np + i → w'.ρ c = w.ρ c) ∧ s'.ce.length = s.ce.length ∧ (∀ c', s.base ≤ c' → R.own c ≠ .own c' → s'.ce[c']? = s.ce[c']?) := by
        intro x0 hx hcl _ hnl ⟨hi, hlone⟩ es
        subst es
        have htc : s.np + i ≠ c := by omega
        have htl : s.np + i < s.ce.length := by have := h.bs; omega
        have get : ∀ (j : Nat) (x : Cell), ((s.ce.set (s.np + i) x0).set c .dead)[j]? = some x → (j = c ∧ x = .dead) ∨ (j = s.np + i ∧ x = x0) ∨ (j ≠ c ∧ j ≠ s.np + i ∧ s.ce[j]? = some x) := fun j x q => by
          by_cases h1 : c = j
          · subst h1
            rw [List.getElem?_set_self (by simpa using hc)] at q
            exact .inl ⟨rfl, (Option.some.inj q).symm⟩
          · rw [List.getElem?_set_ne h1] at q
            by_cases h2 : s.np + i = j
            · subst h2
              rw [List.getElem?_set_self htl] at q
              exact .inr (.inl ⟨rfl, (Option.some.inj q).symm⟩)
            · rw [List.getElem?_set_ne h2] at q
              exact .inr (.inr ⟨Ne.symm h1, Ne.symm h2, q⟩)
        let wn : Wd := { w with ρ := fun j => if j = s.np + i then w.ρ c else w.ρ j, τ := fun j => if j = s.np + i then w.τ c else w.τ j }
        have ρt : wn.ρ (s.np + i) = w.ρ c := if_pos rfl
        have ρo : ∀ j, j ≠ s.np + i → wn.ρ j = w.ρ j := fun j hj => if_neg hj
        have τt : wn.τ (s.np + i) = w.τ c := if_pos rfl
        have τo : ∀ j, j ≠ s.np + i → wn.τ j = w.τ j := fun j hj => if_neg hj
        -- where a tree stood before
        have was : ∀ (j : Nat) (d : D), ((s.ce.set (s.np + i) x0).set c .dead)[j]? = some (.tr d) → ∃ j', s.ce[j']? = some (.tr d) ∧ wn.ρ j = w.ρ j' ∧ wn.τ j = w.τ j' ∧ (j = s.np + i ∧ j' = c ∨ j ≠ s.np + i ∧ j' ≠ c ∧ j' = j) := fun j d q => by
          rcases get j _ q with ⟨_, z⟩ | ⟨rfl, z⟩ | ⟨h1, h2, q'⟩
          · cases z
          · exact ⟨c, by rw [hcl, z], ρt, τt, .inl ⟨rfl, rfl⟩⟩
          · exact ⟨j, q', ρo j h2, τo j h2, .inr ⟨h2, h1, rfl⟩⟩
        refine ⟨wn, ⟨fun j x q => ?_, fun j k x y q1 q2 o1 o2 q3 => ?_, fun j q e => ?_, by simp only [List.length_set]; exact h.sn, h.zt, fun j c' e => ?_, by simp only [List.length_set]; exact h.bs, fun j ds' e => ?_, h.sm, fun j d e => ?_⟩,
          ⟨fun _ q => q, fun _ q => .inl q, fun _ _ q _ => q, fun b => lz2 (fun j y q cy eb => ?_) (fun ⟨j, d, q, m⟩ => by
            obtain ⟨j', q', _, r2, _⟩ := was j d q
            exact .inl (.inr ⟨j', d, q', r2 ▸ m⟩)), fun j hj => ρo j (by omega), by simp only [List.length_set]; exact hnp, fun j ds' q => ?_, rfl, by simp⟩, fun c' hc' => ρo c' hc', by simp, fun c' hc' hne => ?_⟩
        · rcases get j x q with ⟨rfl, rfl⟩ | ⟨rfl, rfl⟩ | ⟨h1, h2, q'⟩
          · trivial
          · rw [ρt]; exact h.cl c _ hcl
          · rw [ρo j h2]; exact h.cl j x q'
        · rcases get j x q1 with ⟨rfl, rfl⟩ | ⟨rfl, rfl⟩ | ⟨h1, h2, q1'⟩
          · cases o1
          · rcases get k y q2 with ⟨rfl, rfl⟩ | ⟨rfl, rfl⟩ | ⟨h3, h4, q2'⟩
            · cases o2
            · rfl
            · rw [ρt, ρo k h4] at q3
              exact absurd (h.inj k c y _ q2' hcl o2 o1 q3.symm) h3
          · rcases get k y q2 with ⟨rfl, rfl⟩ | ⟨rfl, rfl⟩ | ⟨h3, h4, q2'⟩
            · cases o2
            · rw [ρt, ρo j h2] at q3
              exact absurd (h.inj j c x _ q1' hcl o1 o2 q3) h1
            · rw [ρo j h2, ρo k h4] at q3
              exact h.inj j k x y q1' q2' o1 o2 q3
        · have e' : (s.sl.set i (some (.own (s.np + i))))[j]? = some (some q) := e
          by_cases hj : i = j
          · subst hj
            rw [List.getElem?_set_self hi] at e'
            cases e'
            refine ⟨.ref (w.ρ c), List.getElem?_set_self (Nat.lt_of_lt_of_le hi h.sn), ?_, by simp only [List.length_set]; exact htl⟩
            rw [ρt]
          · rw [List.getElem?_set_ne hj] at e'
            obtain ⟨u, e1, e2⟩ := h.sl j q e'
            refine ⟨u, by rw [List.getElem?_set_ne hj]; exact e1, ?_⟩
            cases q with
            | sh d => exact e2
            | ex _ => exact e2
            | own c' =>
              have hne : c' ≠ s.np + i := by
                have hjl : j < s.sl.length := (List.getElem?_eq_some_iff.mp e').1
                have q := List.all_eq_true.mp hlone j (List.mem_range.mpr hjl)
                rw [e'] at q
                rcases Bool.or_eq_true_iff.mp q with q | q
                · exact absurd (beq_iff_eq.mp q).symm hj
                · simpa using q
              exact ⟨by rw [ρo c' hne]; exact e2.1, by simp only [List.length_set]; exact e2.2⟩
        · have e' : (s.sl.set i (some (.own (s.np + i))))[j]? = some (some (.own c')) := e
          show c' < s.np + (s.sl.set i _).length
          rw [List.length_set]
          by_cases hj : i = j
          · subst hj
            rw [List.getElem?_set_self hi] at e'
            cases e'
            omega
          · rw [List.getElem?_set_ne hj] at e'
            exact h.sb j c' e'
        · show j < s.np + (s.sl.set i _).length
          rw [List.length_set]
          rcases get j _ e with ⟨_, z⟩ | ⟨_, z⟩ | ⟨_, _, q⟩
          · cases z
          · rw [← z] at hx; exact hx.elim (fun z => z.elim) fun ⟨_, z⟩ => by cases z
          · exact h.lb j ds' q
        · obtain ⟨j', q', r1, r2, r3⟩ := was j d e
          have T := h.tt j' d q'
          refine ⟨by rw [r1, r2]; exact T.ow, r2 ▸ T.nd, fun b hb => T.nz b (r2 ▸ hb), fun b hb k x ek o q => ?_, fun b hb k e2 ek m => ?_⟩
          · rcases get k x ek with ⟨_, rfl⟩ | ⟨rfl, rfl⟩ | ⟨h1, h2, ek'⟩
            · cases o
            · rw [ρt] at q; exact T.no b (r2 ▸ hb) c _ hcl o q
            · rw [ρo k h2] at q; exact T.no b (r2 ▸ hb) k x ek' o q
          · obtain ⟨k', q2, _, s2, s3⟩ := was k e2 ek
            have := T.nt b (r2 ▸ hb) k' e2 q2 (s2 ▸ m)
            omega
        · rcases get j _ q with ⟨_, z⟩ | ⟨rfl, z⟩ | ⟨h1, h2, q'⟩
          · subst z; exact cy.elim
          · rw [ρt] at eb
            exact .inl (.inl ⟨c, x0, hcl, z ▸ cy, eb⟩)
          · rw [ρo j h2] at eb
            exact .inl (.inl ⟨j, y, q', cy, eb⟩)
        · have hj1 : j ≠ c := fun z => by subst z; rw [hcl] at q; cases q; exact hx.elim id fun ⟨_, z⟩ => by cases z
          have hj2 : j ≠ s.np + i := fun z => by
            subst z
            have : s.cellAt (s.np + i) = .lk ds' := by unfold S.cellAt; rw [q]; rfl
            exact hnl ds' this
          exact ⟨by show ((s.ce.set (s.np + i) x0).set c .dead)[j]? = _; rw [List.getElem?_set_ne (Ne.symm hj1), List.getElem?_set_ne (Ne.symm hj2)]; exact q, ρo j hj2⟩
        · have h1 : c ≠ c' := fun z => hne (by rw [z])
          have : s.base = s.np + s.sl.length := rfl
          show ((s.ce.set (s.np + i) x0).set c .dead)[c']? = _
          rw [List.getElem?_set_ne h1, List.getElem?_set_ne (by omega)]
      cases ec : s.cellAt c with
      | dead => simp only [ec] at e; cases e
      | lk ds => simp only [ec] at e; cases e
      | fz ds =>
        simp only [ec] at e
        split at e
        · cases e
          obtain ⟨hz, xs, q, z⟩ := h.cl c _ (cellAt_fz ec)
          exact ⟨w, set_sl (r := .sh (.list ds)) h (show Den K w.Z H _ _ from .lst (.inl ⟨hz, q⟩) z) (fun c' q => by cases q), ext_sl (by simp) hnp, fun _ _ => rfl, rfl, fun _ _ _ => rfl⟩
        · cases e
      | lv ds =>
        simp only [ec] at e
        have hcl := cellAt_lv ec
        cases et : s.cellAt (s.np + i) with
        | lk ds' => simp only [et] at e; cases e
        | dead =>
          simp only [et] at e
          split at e
          · rename_i hc2
            cases e
            exact key _ (.inl (show Cell.chg (.lv ds) from trivial)) hcl (by rw [et]; simp) (fun ds' => by rw [et]; simp) hc2 rfl
          · cases e
        | lv ds' =>
          simp only [et] at e
          split at e
          · rename_i hc2
            cases e
            exact key _ (.inl (show Cell.chg (.lv ds) from trivial)) hcl (by rw [et]; simp) (fun ds' => by rw [et]; simp) hc2 rfl
          · cases e
        | dv ds' =>
          simp only [et] at e
          split at e
          · rename_i hc2
            cases e
            exact key _ (.inl (show Cell.chg (.lv ds) from trivial)) hcl (by rw [et]; simp) (fun ds' => by rw [et]; simp) hc2 rfl
          · cases e
        | fz ds' =>
          simp only [et] at e
          split at e
          · rename_i hc2
            cases e
            exact key _ (.inl (show Cell.chg (.lv ds) from trivial)) hcl (by rw [et]; simp) (fun ds' => by rw [et]; simp) hc2 rfl
          · cases e
        | tr ds' =>
          simp only [et] at e
          split at e
          · rename_i hc2
            cases e
            exact key _ (.inl (show Cell.chg (.lv ds) from trivial)) hcl (by rw [et]; simp) (fun ds' => by rw [et]; simp) hc2 rfl
          · cases e
      | dv ds =>
        simp only [ec] at e
        have hcl := S.cellAt_some ec (by simp)
        cases et : s.cellAt (s.np + i) with
        | lk ds' => simp only [et] at e; cases e
        | dead =>
          simp only [et] at e
          split at e
          · rename_i hc2
            cases e
            exact key _ (.inl (show Cell.chg (.dv ds) from trivial)) hcl (by rw [et]; simp) (fun ds' => by rw [et]; simp) hc2 rfl
          · cases e
        | lv ds' =>
          simp only [et] at e
          split at e
          · rename_i hc2
            cases e
            exact key _ (.inl (show Cell.chg (.dv ds) from trivial)) hcl (by rw [et]; simp) (fun ds' => by rw [et]; simp) hc2 rfl
          · cases e
        | dv ds' =>
          simp only [et] at e
          split at e
          · rename_i hc2
            cases e
            exact key _ (.inl (show Cell.chg (.dv ds) from trivial)) hcl (by rw [et]; simp) (fun ds' => by rw [et]; simp) hc2 rfl
          · cases e
        | fz ds' =>
          simp only [et] at e
          split at e
          · rename_i hc2
            cases e
            exact key _ (.inl (show Cell.chg (.dv ds) from trivial)) hcl (by rw [et]; simp) (fun ds' => by rw [et]; simp) hc2 rfl
          · cases e
        | tr ds' =>
          simp only [et] at e
          split at e
          · rename_i hc2
            cases e
            exact key _ (.inl (show Cell.chg (.dv ds) from trivial)) hcl (by rw [et]; simp) (fun ds' => by rw [et]; simp) hc2 rfl
          · cases e
      | tr ds =>
        simp only [ec] at e
        have hcl := S.cellAt_some ec (by simp)
        cases et : s.cellAt (s.np + i) with
        | lk ds' => simp only [et] at e; cases e
        | dead =>
          simp only [et] at e
          split at e
          · rename_i hc2
            cases e
            exact key _ (.inr ⟨ds, rfl⟩) hcl (by rw [et]; simp) (fun ds' => by rw [et]; simp) hc2 rfl
          · cases e
        | lv ds' =>
          simp only [et] at e
          split at e
          · rename_i hc2
            cases e
            exact key _ (.inr ⟨ds, rfl⟩) hcl (by rw [et]; simp) (fun ds' => by rw [et]; simp) hc2 rfl
          · cases e
        | dv ds' =>
          simp only [et] at e
          split at e
          · rename_i hc2
            cases e
            exact key _ (.inr ⟨ds, rfl⟩) hcl (by rw [et]; simp) (fun ds' => by rw [et]; simp) hc2 rfl
          · cases e
        | fz ds' =>
          simp only [et] at e
          split at e
          · rename_i hc2
            cases e
            exact key _ (.inr ⟨ds, rfl⟩) hcl (by rw [et]; simp) (fun ds' => by rw [et]; simp) hc2 rfl
          · cases e
        | tr ds' =>
          simp only [et] at e
          split at e
          · rename_i hc2
            cases e
            exact key _ (.inr ⟨ds, rfl⟩) hcl (by rw [et]; simp) (fun ds' => by rw [et]; simp) hc2 rfl
          · cases e
end
end E
/-! E7: the statements' rules. -/
namespace E
open PySem PySem.Spec PyProof.Rows L2

def doneS (s : S) : Res Fl := .ok .nx s.tr
def seqS (f g : SS) : SS := fun s => match f s with
  | .ok .nx s1 => g s1
  | r => r
def skipS : SS := fun s => .ok .nx s
def breakS : SS := fun s => .ok .bk s
def contS : SS := fun s => .ok .ct s
def badS : SS := fun _ => .bad
def exprS (f : ES) : SS := fun s => (f s).bind fun _ s1 => doneS s1
def retS (f : ES) : SS := fun s => (f s).bind fun r s1 => .ok (.rt r) s1
def retN : SS := fun s => .ok (.rt (.sh .none)) s
def setS (i : Nat) (f : ES) : SS := fun s => (f s).bind fun r s1 => (asg0 i r s1).bind fun _ s2 => doneS s2
def ifS (u : TS') (f g : SS) : SS := fun s => (u s).bind fun b s1 => if b = true then f s1.tr else g s1.tr
/-- a value that waits while place i is stored -/
def waits (i : Nat) (s : S) : R → Bool
  | .sh _ => true
  | .ex _ => true
  | .own c => c != s.np + i
def par2S (i j : Nat) (t : AS) : SS := fun s => (t s).bind fun rs s1 => match rs with
  | [r, q] => if waits i s1 q = true then (asg0 i r s1).bind fun _ s2 => (asg0 j q s2).bind fun _ s3 => doneS s3 else .bad
  | _ => .bad
def par3S (i j l : Nat) (t : AS) : SS := fun s => (t s).bind fun rs s1 => match rs with
  | [r, q, m] => if waits i s1 q = true ∧ waits i s1 m = true ∧ waits j s1 m = true then (asg0 i r s1).bind fun _ s2 => (asg0 j q s2).bind fun _ s3 => (asg0 l m s3).bind fun _ s4 => doneS s4 else .bad
  | _ => .bad
def setMany : List Nat → List D → S → Option S
  | [], [], s => some s
  | i :: is, d :: ds, s => if i < s.sl.length then setMany is ds { s with sl := s.sl.set i (some (.sh d)) } else none
  | _, _, _ => none
def unpS (is : List Nat) (f : ES) : SS := fun s => (f s).bind fun r s1 => match s1.look r with
  | some (.tuple ds) => match setMany is ds s1 with
    | some s2 => doneS s2
    | none => .bad
  | _ => .bad
def putAt (c : Nat) (ri r : R) (s : S) : Res Fl := match s.look ri with
  | some (.int k) => match s.frz r with
    | some (d, s4) => match s4.cellAt c with
      | .lv ds => match ixN ds.length k with
        | some j => doneS (s4.put c (.lv (ds.set j d)))
        | none => .bad
      | _ => .bad
    | none => .bad
  | _ => .bad
def putIx (ro ri r : R) (s : S) : Res Fl := match ro with
  | .own c => putAt c ri r s
  | _ => .bad
def subS (fo fi f : ES) : SS := fun s => (f s).bind fun r s1 => (fo s1).bind fun ro s2 => (fi s2).bind fun ri s3 => putIx ro ri r s3
def augS (i : Nat) (g : R → R → S → Res R) (f : ES) : SS := fun s => (varS i s).bind fun r0 s0 => (f s0).bind fun r1 s1 => (g r0 r1 s1).bind fun r2 s2 => (asg0 i r2 s2).bind fun _ s3 => doneS s3
section
variable {X : Cx} {W : WX} {e a b c o : Expr} {es rest : List Expr} {st : Stmt} {sts sts2 : List Stmt} {f f1 f2 f3 : ES} {k l : SS} {u u1 u2 : TS'} {t : AS} {g : R → R → S → Res R} {pos p : Pos} {K : PySem.W.Frag} {mg : Str → Option Value} {w w' : Wd} {s s' : S} {H H' : Hp} {Z : Addr → Prop} {σ : St} {Q : VK} {x name : Str} {B : Ends} {q0 : Nat}
theorem pss_imp {t t' : TS} (h : PSs X sts t) (hi : ∀ σ H D, t' D σ H → t D σ H) : PSs X sts t' := ⟨fun pins s σ H D I q => h.run pins s σ H D I (hi σ H D q)⟩
/-- a statement's end -/
theorem done_nx (h : PostS K mg W q0 w s H (doneS s) B) (hS : StR K mg w s σ H) (hq : q0 ≤ s.np) : B.nx σ H := h w σ H hS.tr ((Ext.tr hS).mono hq)
theorem sb_nil : SB X W [] skipS := pss_imp pss_nil fun σ H B ⟨w, s, hS, h⟩ => h w σ H hS (Ext.refl hS.np_le)
theorem ss_never : SSt X W st badS := ps_imp ps_never fun σ H B ⟨w, s, hS, h⟩ => h
theorem sb_one (h : SSt X W st k) : SB X W [st] k := pss_one h
theorem seq_at (h : tS K mg W (seqS k l) B σ H) : tS K mg W k { B with nx := tS K mg W l B } σ H := by
  obtain ⟨w, s, hS, h⟩ := h
  refine ⟨w, s, hS, ?_⟩
  unfold seqS at h
  cases e : k s with
  | ok a s1 =>
    rw [e] at h
    cases a with
    | nx =>
      intro w' σ' H' h1 e1
      exact ⟨w', s1, h1, PostS.move (p := s.np) (q := s1.np) h e1 (Nat.le_of_eq e1.nq.symm)⟩
    | bk => exact h
    | ct => exact h
    | rt r => exact h
  | exc y s1 => rw [e] at h; exact h
  | bad => rw [e] at h; exact h
theorem sb_cons (h1 : SSt X W st k) (h2 : SB X W sts l) : SB X W (st :: sts) (seqS k l) := pss_imp (pss_cons h1 h2) fun σ H B h => seq_at h
theorem ss_expr (he : SE X W e f) (hs : swapsWith e none pos.line X.env = pure false := by rfl) : SSt X W (.Expr e pos) (exprS f) := by
  refine ps_imp (ps_expr he hs) fun σ H B ⟨w, s, hS, h⟩ => ?_
  refine ⟨w, s, hS, Post.mono (PostS.split h hS hS.np_le) fun w1 r1 s1 H1 _ _ ⟨hS1, e1, h1⟩ v hv => ?_⟩
  exact done_nx h1 hS1 (Nat.le_of_eq e1.nq.symm)
theorem ss_ret (he : SE X W e f) : SSt X W (.Return (some e) pos) (retS f) := by
  refine ps_imp (ps_ret he) fun σ H B ⟨w, s, hS, h⟩ => ?_
  refine ⟨w, s, hS, Post.mono (PostS.split h hS hS.np_le) fun w1 r1 s1 H1 _ _ ⟨hS1, e1, h1⟩ v hv => ?_⟩
  exact h1 w1 σ H1 v hS1 (Ext.refl (by rw [← e1.nq]; exact hS1.np_le)) hv
theorem ss_if (hc : ST X W c u) (ha : SB X W sts k) (hb : SB X W sts2 l) : SSt X W (.If c sts sts2 pos) (ifS u k l) := by
  refine ps_imp (ps_if hc ha hb) fun σ H B ⟨w, s, hS, h⟩ => ?_
  refine ⟨w, s, hS, Post.mono (PostS.split h hS hS.np_le) fun w1 b1 s1 H1 _ _ ⟨hS1, e1, h1⟩ => ?_⟩
  have x : Ext s.np w1 s1 H1 w1 s1.tr H1 := (Ext.tr hS1).mono (Nat.le_of_eq e1.nq.symm)
  cases b1 with
  | true => exact ⟨w1, s1.tr, hS1.tr, PostS.move h1 x (Nat.le_of_eq e1.nq.symm)⟩
  | false => exact ⟨w1, s1.tr, hS1.tr, PostS.move h1 x (Nat.le_of_eq e1.nq.symm)⟩
/-- a value is stored in a slot -/
theorem stored {r : R} {i : Nat} {v : V} (h : PostS K mg W q0 w s H ((asg0 i r s).bind fun _ s2 => doneS s2) B) (hS : StR K mg w s σ H) (hq : q0 ≤ s.np) (hr : RR K mg w s.ce.length H v r) : B.nx (σ.set i (some v)) H := by
  cases e : asg0 i r s with
  | ok a s2 =>
    rw [e] at h
    obtain ⟨w2, h2, x2, _⟩ := asg0_ok hS hr e
    exact done_nx (PostS.move (p := q0) (q := q0) h (x2.mono hq) (Nat.le_refl _)) h2 (by rw [x2.nq]; exact hq)
  | exc y s1 => unfold asg0 at e; split at e <;> (repeat (split at e <;> try cases e))
  | bad => rw [e] at h; exact h.elim
theorem ss_set {i : Nat} {pos' : Pos} (hN : X.N.Nodup) (hi : X.N[i]? = some x) (hx : Loc X.env.scope x) (he : SE X W e f) (hs : swapsWith e (some (.Name x pos')) pos.line X.env = pure false := by rfl) (hf : X.fn x = true ∨ X.env.scope.names.lookup x = some .local := by first | exact .inl rfl | exact .inr rfl | assumption) :
    SSt X W (.Assign [.Name x pos'] e pos) (setS i f) := by
  refine ps_imp (ps_set hN hi hx he hs hf) fun σ H B ⟨w, s, hS, h⟩ => ?_
  refine ⟨w, s, hS, Post.mono (PostS.split h hS hS.np_le) fun w1 r1 s1 H1 _ _ ⟨hS1, e1, h1⟩ v hv => ?_⟩
  exact stored h1 hS1 (Nat.le_of_eq e1.nq.symm) hv
theorem asg_noexc {i : Nat} {r : R} {y : Ex} {s1 : S} (e : asg0 i r s = .exc y s1) : False := by
  unfold asg0 at e
  split at e <;> (repeat (split at e <;> try cases e))
/-- values wait -/
theorem waited {i : Nat} {r : R} {u : V} (hS : StR K mg w s σ H) (hr : RR K mg w s.ce.length H u r) (e : asg0 i r s = .ok () s') :
    ∃ w', StR K mg w' s' (σ.set i (some u)) H ∧ Ext s.np w s H w' s' H ∧ ∀ (v : V) (m : R), RR K mg w s.ce.length H v m → waits i s m = true → RR K mg w' s'.ce.length H v m := by
  obtain ⟨w2, h2, x2, ρ2, l2, _⟩ := asg0_ok hS hr e
  refine ⟨w2, h2, x2, fun v m hm hw => ?_⟩
  cases m with
  | sh d => exact Den.stay (hS.stay x2) hm
  | ex _ => exact ExV.stay (hS.stay x2) hm
  | own c =>
    have hc : c ≠ s.np + i := by simpa [waits] using hw
    exact ⟨by rw [ρ2 c hc]; exact hm.1, by rw [l2]; exact hm.2⟩
theorem par2_at {i j : Nat} (h : tS K mg W (par2S i j t) B σ H) : tPar i j (tA K mg W t) B σ H := by
  obtain ⟨w, s, hS, h⟩ := h
  refine ⟨w, s, hS, Post.mono (PostS.split h hS hS.np_le) fun w1 rs s1 H1 _ _ ⟨hS1, e1, h1⟩ vs hvs => ?_⟩
  split at h1
  · rename_i r m _
    obtain ⟨v, v', rfl, hv, hv'⟩ := hvs.two
    split at h1
    · rename_i hw
      refine ⟨v, v', rfl, ?_⟩
      cases e : asg0 i r s1 with
      | ok a s2 =>
        rw [e] at h1
        obtain ⟨w2, h2, x2, keep⟩ := waited hS1 hv e
        have m2 := keep _ _ hv' hw
        exact stored (PostS.move (p := s.np) (q := s.np) h1 (x2.mono (Nat.le_of_eq e1.nq.symm)) (Nat.le_refl _)) h2 (by rw [x2.nq, e1.nq]; exact Nat.le_refl _) m2
      | exc y s2 => exact (asg_noexc e).elim
      | bad => rw [e] at h1; exact h1.elim
    · exact h1.elim
  · exact h1.elim
theorem ss_par2 {i j : Nat} {y : Str} {px py pt : Pos} {kt k2 : Nat} {pt2 : Pos} (hc : X.calm = true) (hN : X.N.Nodup) (hi : X.N[i]? = some x) (hj : X.N[j]? = some y) (hij : i ≠ j)
    (hx : X.env.scope.names.lookup x = some .local) (hy : X.env.scope.names.lookup y = some .local) (ha : SA X W [a, b] t)
    (hw : swappedStores [.Tuple [.Name x px, .Name y py] kt pt] (.Tuple [a, b] k2 pt2) X.env = pure (some [x, y]))
    (hs : swapsWithSole [.Tuple [.Name x px, .Name y py] kt pt] (.Tuple [a, b] k2 pt2) pos.line X.env = pure false := by rfl) :
    SSt X W (.Assign [.Tuple [.Name x px, .Name y py] kt pt] (.Tuple [a, b] k2 pt2) pos) (par2S i j t) := ps_imp (ps_par hc hN hi hj hij hx hy ha hw hs) fun σ H B h => par2_at h
/-! ### targets -/
def gNames : List Nat → TGs
  | [] => gNil
  | i :: is => gCons (gName i) (gNames is)
def setV : List Nat → List V → St → St
  | i :: is, v :: vs, σ => setV is vs (σ.set i (some v))
  | _, _, σ => σ
theorem ext_same (hl : s'.sl.length = s.sl.length) (hc : s'.ce = s.ce) (hn : s'.np = s.np) (hp : q0 ≤ s.ce.length) : Ext q0 w s H w s' H :=
  ⟨fun _ h => h, fun _ h => .inl h, fun _ _ h _ => h, fun _ => lz2 (fun i ds e c q => .inl (.inl ⟨i, ds, by rw [← hc]; exact e, c, q⟩)) (fun ⟨i, d, e, m⟩ => .inl (.inr ⟨i, d, by rw [← hc]; exact e, m⟩)), fun _ _ => rfl, by rw [hc]; exact hp, fun _ _ h => ⟨by rw [hc]; exact h, rfl⟩, hn, hl⟩
/-! ### o[i] = e, x op= e -/
theorem ss_sub {tp : Pos} {i : Expr} {fo fi : ES} (ho : SE X W o fo) (hi : SE X W i fi) (he : SE X W e f)
    (ha : ∀ v, assign (.Subscript o i tp) X.env v = (do
      let ov ← holding [v] (eval o X.env)
      let iv ← holding [v, ov] (eval i X.env)
      standAt tp
      holding [v, ov, iv] (setItem ov iv v)
      release [v, ov, iv] []) := by intro _; rfl)
    (hs : swapsWithSole [.Subscript o i tp] e pos.line X.env = pure false := by rfl) (hw : swappedStores [.Subscript o i tp] e X.env = pure none := by rfl) (h1 : (assignEach [.Subscript o i tp] X.env).map (·.2) = [assign (.Subscript o i tp) X.env] := by rfl) :
    SSt X W (.Assign [.Subscript o i tp] e pos) (subS fo fi f) := by
  refine ps_imp (ps_asg he (pg_sub ho hi set_list ha) hs hw h1) fun σ H B ⟨w, s, hS, h⟩ => ?_
  refine ⟨w, s, hS, Post.mono (PostS.split h hS hS.np_le) fun w1 r1 s1 H1 _ _ ⟨hS1, e1, h1⟩ v hv => ?_⟩
  have le1 : s.np ≤ s1.ce.length := by rw [← e1.nq]; exact hS1.np_le
  refine ⟨w1, s1, hS1, Post.mono (PostS.split h1 hS1 le1) fun w2 r2 s2 H2 _ _ ⟨hS2, e2, h2⟩ vo hvo => ?_⟩
  have le2 : s.np ≤ s2.ce.length := by rw [← e1.nq, ← e2.nq]; exact hS2.np_le
  have hv2 := RR.stay hS1 e2 (Nat.le_refl _) hv
  refine ⟨w2, s2, hS2, Post.mono (PostS.split h2 hS2 le2) fun w3 r3 s3 H3 _ _ ⟨hS3, e3, h3⟩ vi hvi => ?_⟩
  have hv3 := RR.stay hS2 e3 (Nat.le_refl _) hv2
  have hvo3 := RR.stay hS2 e3 (Nat.le_refl _) hvo
  have n3 : s.np = s3.np := by rw [e3.nq, e2.nq, e1.nq]
  cases r2 with
  | sh d => exact h3.elim
  | ex _ => exact h3.elim
  | own c =>
  have h3 : PostS X.K X.mg W s.np w3 s3 H3 (putAt c r3 r1 s3) B := h3
  unfold putAt at h3
  split at h3
  · rename_i k el
    have ei := (look_ok hS3 el hvi).int
    split at h3
    · rename_i d s4 ef
      obtain ⟨w4, hS4, x4, d4, l4⟩ := frz_ok hS3 ef hv3
      have hvo4 := RR.stay hS3 x4 (Nat.le_refl _) hvo3
      split at h3
      · rename_i ds ec
        split at h3
        · rename_i j ej
          obtain ⟨rfl, hlt⟩ := hvo4
          have hc := cellAt_lv ec
          obtain ⟨_, ys, hH, hd⟩ := hS4.cl c _ hc
          refine ⟨w4.ρ c, ys, k, j, rfl, ei, hH, by rw [hd.length]; exact ej, ?_⟩
          obtain ⟨g1, g2⟩ := hS4.write hc (hd.set j d4)
          have h4 := PostS.move (p := s.np) (q := s.np) h3 (x4.mono (by rw [n3]; exact hS3.np_le)) (Nat.le_refl _)
          have n4 : s4.np = s3.np := x4.nq
          exact done_nx (PostS.move (p := s.np) (q := s.np) h4 (g2.mono (by rw [n3, ← n4]; exact hS4.np_le)) (Nat.le_refl _)) g1 (by show s.np ≤ s4.np; omega)
        · exact h3.elim
      · exact h3.elim
    · exact h3.elim
  · exact h3.elim
/-- x += e -/
def extAt (es : List D) (s : S) : R → Res R
  | .own c => match s.cellAt c with
    | .lv ds => if ds.length + es.length ≤ sizeLine then .ok (.own c) (s.put c (.lv (ds ++ es))) else .bad
    | _ => .bad
  | _ => .bad
def iaddR : R → R → S → Res R := fun r1 r2 s => match s.look r1, s.look r2 with
  | some (.int i), some (.int j) => .ok (.sh (.int (i + j))) s
  | some (.str x), some (.str y) => if x.length + y.length ≤ sizeLine then .ok (.sh (.str (x ++ y))) s else .bad
  | some (.list _), some (.list es) => extAt es s r1
  | _, _ => .bad
end
end E
/-! E8: what is walked; for, while. -/
namespace E
open PySem PySem.Spec PyProof.Rows L2

abbrev IS := S → Res (List D × List Nat)
/-- the list in a cell is about to be walked -/
def lockI (s0 : S) (c : Nat) (s : S) : Res (List D × List Nat) := match s.cellAt c with
  | .lv ds => if c < s.base then (match s0.cellAt c with
    | .lv _ => .ok (ds, [c]) (s.put c (.lk ds))
    | _ => .bad) else .ok (ds, []) (s.put c (.fz ds))
  | .lk ds => .ok (ds, []) s
  | .fz ds => .ok (ds, []) s
  | .dead => .bad
  | .dv _ => .bad
  | .tr _ => .bad
def lkL (s0 : S) (r : R) (s : S) : Res (List D × List Nat) := match r with
  | .sh (.list ds) => .ok (ds, []) s
  | .own c => lockI s0 c s
  | _ => .bad
def seqI (f : ES) : IS := fun s => (f s).bind fun r s1 => match r with
  | .sh (.tuple ds) => .ok (ds, []) s1
  | r => lkL s r s1
/-- what a walk's record says of the data that it yields -/
structure ItOk (K : PySem.W.Frag) (mg : Str → Option Value) (J : It) (ds : List D) (w0 : Wd) (s0 : S) (H0 : Hp) : Prop where
  go : ∀ (i : Nat) (w : Wd) (s : S) (σ : St) (H : Hp), StR K mg w s σ H → Ext 0 w0 s0 H0 w s H → i < ds.length → J.go i H
  yld : ∀ (i : Nat) (w : Wd) (s : S) (σ : St) (H : Hp) (x : V) (H' : Hp), StR K mg w s σ H → Ext 0 w0 s0 H0 w s H → i < ds.length → J.yld i H x H' → ∃ d, ds[i]? = some d ∧ StR K mg w s σ H' ∧ Ext s.ce.length w s H w s H' ∧ Den K w.Z H' x d
  stop : ∀ (i : Nat) (w : Wd) (s : S) (σ : St) (H : Hp), StR K mg w s σ H → Ext 0 w0 s0 H0 w s H → ds.length ≤ i → J.stop i H
/-- the cells cs are locked at (w1, s1), and were open at (w0, s0) -/
def Locked (w0 : Wd) (s0 : S) (w1 : Wd) (s1 : S) (cs : List Nat) : Prop := ∀ c ∈ cs, ∃ ds ds' : List D, s0.ce[c]? = some (.lv ds) ∧ s1.ce[c]? = some (.lk ds') ∧ w1.ρ c = w0.ρ c
def tI (K : PySem.W.Frag) (mg : Str → Option Value) (W : WX) (f : IS) : TI := fun σ H R => ∃ w s, StR K mg w s σ H ∧ Post K mg W σ s.ce.length w s H (f s) (fun w1 q s1 H1 => Locked w s w1 s1 q.2 → ∀ J, ItOk K mg J q.1 w1 s1 H1 → R J H1)
def SI (X : Cx) (W : WX) (tg e : Expr) (f : IS) : Prop := PI X tg e (tI X.K X.mg W f)
/-- a list at an address that stays as it is -/
def Fix (K : PySem.W.Frag) (mg : Str → Option Value) (a : Addr) (xs : List V) (ds : List D) (w0 : Wd) (s0 : S) (H0 : Hp) : Prop := ∀ (w : Wd) (s : S) (σ : St) (H : Hp), StR K mg w s σ H → Ext 0 w0 s0 H0 w s H → SqL K H a xs ∧ Dens K w.Z H xs ds
section
variable {K : PySem.W.Frag} {mg : Str → Option Value} {W : WX} {w w' w₂ w0 w1 : Wd} {s s' s₂ s0 s1 : S} {H H' H₂ H0 H1 : Hp} {σ : St} {p q : Nat} {B B' : Ends}
/-- a cell's list is locked -/
theorem StR.lock (h : StR K mg w s σ H) {c : Nat} {ds : List D} (hc : s.ce[c]? = some (.lv ds)) (hb : c < s.base) : StR K mg w (s.put c (.lk ds)) σ H ∧ Ext s.ce.length w s H w (s.put c (.lk ds)) H := by
  refine ⟨⟨fun i x e => ?_, fun i j x y e1 e2 o1 o2 e3 => ?_, fun i r e => ?_, h.sn, h.zt, h.sb, by rw [put_len]; exact h.bs, fun i ds' e => ?_, h.sm, ?_⟩, ⟨fun _ q => q, fun _ q => .inl q, fun _ _ q _ => q, fun b => lz2 (fun i y e cy eb => ?_) (fun t => .inl (.inr (inT_put rfl t))), fun _ _ => rfl, by rw [put_len]; exact Nat.le_refl _, fun i ds' e => ⟨put_other (fun z => by subst z; rw [hc] at e; cases e) e, rfl⟩, rfl, rfl⟩⟩
  · rcases put_get e with ⟨rfl, rfl, _⟩ | ⟨hne, e'⟩
    · have z : CellR K w.Z H (w.ρ i) (.lv ds) := h.cl i _ hc
      exact z
    · exact h.cl i x e'
  · have back : ∀ (i : Nat) (x : Cell), (s.put c (.lk ds)).ce[i]? = some x → x.open?.isSome = true → ∃ x', s.ce[i]? = some x' ∧ x'.open?.isSome = true := fun i x e o => by
      rcases put_get e with ⟨rfl, rfl, _⟩ | ⟨hne, e'⟩
      · exact ⟨_, hc, rfl⟩
      · exact ⟨x, e', o⟩
    obtain ⟨x', a1, b1⟩ := back i x e1 o1
    obtain ⟨y', a2, b2⟩ := back j y e2 o2
    exact h.inj i j x' y' a1 a2 b1 b2 e3
  · obtain ⟨v, e1, e2⟩ := h.sl i r e
    refine ⟨v, e1, ?_⟩
    cases r with
    | sh d => exact e2
    | ex _ => exact e2
    | own c' => exact ⟨e2.1, by rw [put_len]; exact e2.2⟩
  · rcases put_get e with ⟨rfl, _, _⟩ | ⟨_, e'⟩
    · exact hb
    · exact h.lb i ds' e'
  · refine h.tr_keep .refl (fun i d e => ⟨(put_tr rfl e).1, rfl, rfl⟩) (fun b _ o q => q) (fun _ _ z => z) fun b _ j x e o q => ?_
    rcases put_get e with ⟨rfl, rfl, _⟩ | ⟨hne, e'⟩
    · exact ⟨_, _, hc, rfl, q⟩
    · exact ⟨j, x, e', o, q⟩
  · rcases put_get e with ⟨_, z, _⟩ | ⟨_, e'⟩
    · subst z; exact cy.elim
    · exact .inl (.inl ⟨i, y, e', cy, eb⟩)
/-- .. and opened again, seen from where it was open -/
theorem StR.unlock (h : StR K mg w s σ H) {c : Nat} {ds : List D} (hc : s.ce[c]? = some (.lk ds)) : StR K mg w (s.put c (.lv ds)) σ H := by
  refine ⟨fun i x e => ?_, fun i j x y e1 e2 o1 o2 e3 => ?_, fun i r e => ?_, h.sn, h.zt, h.sb, by rw [put_len]; exact h.bs, fun i ds' e => ?_, h.sm, ?_⟩
  · rcases put_get e with ⟨rfl, rfl, _⟩ | ⟨hne, e'⟩
    · have z : CellR K w.Z H (w.ρ i) (.lk ds) := h.cl i _ hc
      exact z
    · exact h.cl i x e'
  · have back : ∀ (i : Nat) (x : Cell), (s.put c (.lv ds)).ce[i]? = some x → x.open?.isSome = true → ∃ x', s.ce[i]? = some x' ∧ x'.open?.isSome = true := fun i x e o => by
      rcases put_get e with ⟨rfl, rfl, _⟩ | ⟨hne, e'⟩
      · exact ⟨_, hc, rfl⟩
      · exact ⟨x, e', o⟩
    obtain ⟨x', a1, b1⟩ := back i x e1 o1
    obtain ⟨y', a2, b2⟩ := back j y e2 o2
    exact h.inj i j x' y' a1 a2 b1 b2 e3
  · obtain ⟨v, e1, e2⟩ := h.sl i r e
    refine ⟨v, e1, ?_⟩
    cases r with
    | sh d => exact e2
    | ex _ => exact e2
    | own c' => exact ⟨e2.1, by rw [put_len]; exact e2.2⟩
  · rcases put_get e with ⟨_, z, _⟩ | ⟨_, e'⟩
    · cases z
    · exact h.lb i ds' e'
  · refine h.tr_keep .refl (fun i d e => ⟨(put_tr rfl e).1, rfl, rfl⟩) (fun b _ o q => q) (fun _ _ z => z) fun b _ j x e o q => ?_
    rcases put_get e with ⟨rfl, rfl, _⟩ | ⟨hne, e'⟩
    · exact ⟨_, _, hc, rfl, q⟩
    · exact ⟨j, x, e', o, q⟩
theorem Ext.unlock (e : Ext p w0 s0 H0 w s H) {c : Nat} {ds ds0 : List D} (hc : s.ce[c]? = some (.lk ds)) (h0 : s0.ce[c]? = some (.lv ds0)) (hρ : w.ρ c = w0.ρ c) : Ext p w0 s0 H0 w (s.put c (.lv ds)) H where
  z := e.z
  zn := e.zn
  k := e.k
  lz := fun a => lz2 (fun i y q cy ea => by
    rcases put_get q with ⟨rfl, _, _⟩ | ⟨_, q'⟩
    · exact .inl (.inl ⟨i, _, h0, trivial, hρ.symm.trans ea⟩)
    · exact e.lz a (.inl ⟨i, y, q', cy, ea⟩)) fun t => e.lz a (.inr (inT_put rfl t))
  pr := e.pr
  ln := by rw [put_len]; exact e.ln
  lk := fun i ds' q => by
    obtain ⟨h1, h2⟩ := e.lk i ds' q
    exact ⟨put_other (fun z => by subst z; rw [h0] at q; cases q) h1, h2⟩
  nq := e.nq
  sq := e.sq
def S.unl (cs : List Nat) (s : S) : S := cs.foldl (fun s c => match s.cellAt c with
  | .lk ds => s.put c (.lv ds)
  | _ => s) s
theorem unl_len : ∀ (cs : List Nat) (s : S), (s.unl cs).ce.length = s.ce.length
  | [], _ => rfl
  | c :: cs, s => by
    show (S.unl cs _).ce.length = _
    rw [unl_len cs]
    show (match s.cellAt c with | .lk ds => s.put c (.lv ds) | _ => s).ce.length = _
    split
    · exact put_len
    · rfl
theorem unl_ok : ∀ {cs : List Nat} {w : Wd} {s : S} {σ : St} {H : Hp}, StR K mg w s σ H → Ext p w0 s0 H0 w s H → (∀ c ∈ cs, ∃ ds : List D, s0.ce[c]? = some (.lv ds)) → (∀ c ∈ cs, w.ρ c = w0.ρ c) → StR K mg w (s.unl cs) σ H ∧ Ext p w0 s0 H0 w (s.unl cs) H
  | [], _, _, _, _, hS, e, _, _ => ⟨hS, e⟩
  | c :: cs, w, s, σ, H, hS, e, h0, hρ => by
    have go : ∀ s', StR K mg w s' σ H → Ext p w0 s0 H0 w s' H → StR K mg w (S.unl cs s') σ H ∧ Ext p w0 s0 H0 w (S.unl cs s') H := fun s' a b => unl_ok a b (fun c' hc' => h0 c' (List.mem_cons_of_mem _ hc')) fun c' hc' => hρ c' (List.mem_cons_of_mem _ hc')
    show StR K mg w (S.unl cs (match s.cellAt c with | .lk ds => s.put c (.lv ds) | _ => s)) σ H ∧ _
    cases ec : s.cellAt c with
    | lk ds =>
      obtain ⟨ds0, q0⟩ := h0 c List.mem_cons_self
      have q1 : s.ce[c]? = some (.lk ds) := S.cellAt_some ec (by simp)
      have z := go _ (hS.unlock q1) (e.unlock q1 q0 (hρ c List.mem_cons_self))
      show StR K mg w (S.unl cs _) σ H ∧ Ext p w0 s0 H0 w (S.unl cs _) H
      exact ⟨z.1, by show Ext p w0 s0 H0 w (S.unl cs (match s.cellAt c with | .lk ds => s.put c (.lv ds) | _ => s)) H; rw [ec]; exact z.2⟩
    | dead =>
      have z := go _ hS e
      exact ⟨z.1, by show Ext p w0 s0 H0 w (S.unl cs (match s.cellAt c with | .lk ds => s.put c (.lv ds) | _ => s)) H; rw [ec]; exact z.2⟩
    | lv ds =>
      have z := go _ hS e
      exact ⟨z.1, by show Ext p w0 s0 H0 w (S.unl cs (match s.cellAt c with | .lk ds => s.put c (.lv ds) | _ => s)) H; rw [ec]; exact z.2⟩
    | fz ds =>
      have z := go _ hS e
      exact ⟨z.1, by show Ext p w0 s0 H0 w (S.unl cs (match s.cellAt c with | .lk ds => s.put c (.lv ds) | _ => s)) H; rw [ec]; exact z.2⟩
    | tr ds =>
      have z := go _ hS e
      exact ⟨z.1, by show Ext p w0 s0 H0 w (S.unl cs (match s.cellAt c with | .lk ds => s.put c (.lv ds) | _ => s)) H; rw [ec]; exact z.2⟩
    | dv ds =>
      have z := go _ hS e
      exact ⟨z.1, by show Ext p w0 s0 H0 w (S.unl cs (match s.cellAt c with | .lk ds => s.put c (.lv ds) | _ => s)) H; rw [ec]; exact z.2⟩
theorem Fix.later {a : Addr} {xs : List V} {ds : List D} (F : Fix K mg a xs ds w0 s0 H0) (e : Ext 0 w0 s0 H0 w1 s1 H1) : Fix K mg a xs ds w1 s1 H1 := fun w s σ H h e2 => F w s σ H h (e.trans e2 (Nat.le_refl _))
theorem Locked.later {cs : List Nat} (L : Locked w0 s0 w1 s1 cs) (e : Ext 0 w1 s1 H1 w₂ s₂ H₂) : Locked w0 s0 w₂ s₂ cs := fun c hc => by
  obtain ⟨ds, ds', h1, h2, h3⟩ := L c hc
  obtain ⟨h4, h5⟩ := e.lk c ds' h2
  exact ⟨ds, ds', h1, h4, h5.trans h3⟩
theorem fix_sh (hS : StR K mg w0 s0 σ H0) {a : Addr} {xs : List V} {ds : List D} (l : LstZ K w0.Z H0 a xs) (d : Dens K w0.Z H0 xs ds) : Fix K mg a xs ds w0 s0 H0 := fun w s σ H h e => ⟨(l.stay (hS.stay e)).sq, d.stay (hS.stay e)⟩
theorem fix_lk (hS : StR K mg w0 s0 σ H0) {c : Nat} {xs : List V} {ds : List D} (hc : s0.ce[c]? = some (.lk ds)) (l : H0 (w0.ρ c) = some (.lst xs)) (d : Dens K w0.Z H0 xs ds) : Fix K mg (w0.ρ c) xs ds w0 s0 H0 := fun w s σ H h e => by
  refine ⟨SqL.of (e.k _ _ l (lz2 (fun i ds' q cy ea => ?_) fun t => hS.t_no t hc rfl rfl)), d.stay (hS.stay e)⟩
  have := hS.inj i c _ _ q hc (chg_open cy) rfl ea
  subst this
  rw [hc] at q; cases q; exact cy
theorem lkL_ok {r : R} {v : V} {ds : List D} {cs : List Nat} (hS : StR K mg w1 s1 σ H1) (e1 : Ext s0.ce.length w0 s0 H0 w1 s1 H1) (hr : RR K mg w1 s1.ce.length H1 v r) (h : lkL s0 r s1 = .ok (ds, cs) s₂) :
    ∃ w₂ a xs, v = .ref a ∧ StR K mg w₂ s₂ σ H1 ∧ Ext s1.ce.length w1 s1 H1 w₂ s₂ H1 ∧ Fix K mg a xs ds w₂ s₂ H1 ∧ Locked w0 s0 w₂ s₂ cs := by
  cases r with
  | sh d =>
    cases d with
    | list es =>
      cases h
      have hr : Den K w1.Z H1 v (.list ds) := hr
      cases hr with
      | lst l d => exact ⟨w1, _, _, rfl, hS, Ext.refl (Nat.le_refl _), fix_sh hS l d, fun c hc => by cases hc⟩
    | _ => cases h
  | ex _ => cases h
  | own c =>
    obtain ⟨rfl, hlt⟩ := hr
    have h : lockI s0 c s1 = .ok (ds, cs) s₂ := h
    unfold lockI at h
    cases ec : s1.cellAt c with
    | dead => simp only [ec] at h; cases h
    | dv _ => simp only [ec] at h; cases h
    | tr _ => simp only [ec] at h; cases h
    | lk es =>
      simp only [ec] at h
      cases h
      have q := S.cellAt_some ec (by simp)
      obtain ⟨_, xs, l, d⟩ := hS.cl c _ q
      exact ⟨w1, _, xs, rfl, hS, Ext.refl (Nat.le_refl _), fix_lk hS q l d, fun c hc => by cases hc⟩
    | fz es =>
      simp only [ec] at h
      cases h
      have q := S.cellAt_some ec (by simp)
      obtain ⟨z, xs, l, d⟩ := hS.cl c _ q
      exact ⟨w1, _, xs, rfl, hS, Ext.refl (Nat.le_refl _), fix_sh hS (.inl ⟨z, l⟩) d, fun c hc => by cases hc⟩
    | lv es =>
      simp only [ec] at h
      have q := S.cellAt_some ec (by simp)
      split at h
      · rename_i hb
        cases e0 : s0.cellAt c with
        | lv es0 =>
          simp only [e0] at h
          cases h
          have q0 := S.cellAt_some e0 (by simp)
          obtain ⟨g1, g2⟩ := hS.lock q hb
          have qk : (s1.put c (.lk ds)).ce[c]? = some (.lk ds) := by
            show (s1.ce.set c _)[c]? = _
            rw [List.getElem?_set_self (List.getElem?_eq_some_iff.mp q).1]
          obtain ⟨_, xs, l, d⟩ := g1.cl c _ qk
          refine ⟨w1, _, xs, rfl, g1, g2, fix_lk g1 qk l d, fun c' hc' => ?_⟩
          have : c' = c := by simpa using hc'
          subst this
          exact ⟨es0, ds, q0, qk, e1.pr c' (List.getElem?_eq_some_iff.mp q0).1⟩
        | dead => simp only [e0] at h; cases h
        | dv _ => simp only [e0] at h; cases h
        | tr _ => simp only [e0] at h; cases h
        | lk es0 => simp only [e0] at h; cases h
        | fz es0 => simp only [e0] at h; cases h
      · cases h
        obtain ⟨g1, g2, _⟩ := hS.fix q
        have qk : (s1.put c (.fz ds)).ce[c]? = some (.fz ds) := by
          show (s1.ce.set c _)[c]? = _
          rw [List.getElem?_set_self (List.getElem?_eq_some_iff.mp q).1]
        obtain ⟨z, xs, l, d⟩ := g1.cl c _ qk
        exact ⟨_, _, xs, rfl, g1, g2, fix_sh g1 (.inl ⟨z, l⟩) d, fun c' hc' => by cases hc'⟩
theorem lkL_noexc {r : R} {x : Ex} (h : lkL s0 r s1 = .exc x s₂) : False := by
  cases r with
  | sh d => cases d <;> cases h
  | ex _ => cases h
  | own c =>
    have h : lockI s0 c s1 = .exc x s₂ := h
    unfold lockI at h
    (repeat (split at h <;> try cases h))
/-- walked as a list -/
theorem it_list {a : Addr} {xs : List V} {ds : List D} (F : Fix K mg a xs ds w0 s0 H0) : ItOk K mg (Itl K a) ds w0 s0 H0 where
  go := fun i w s σ H h e hi => by
    obtain ⟨l, d⟩ := F w s σ H h e
    have hx : i < xs.length := by rw [d.length]; exact hi
    exact ⟨xs, xs[i], l, by simp [hx]⟩
  yld := fun i w s σ H x H' h e hi ⟨e1, e2⟩ => by
    obtain ⟨l, d⟩ := F w s σ H h e
    subst e1
    obtain ⟨y, g1, g2⟩ := d.getV (e2 xs l)
    exact ⟨y, g1, h, Ext.refl (Nat.le_refl _), g2⟩
  stop := fun i w s σ H h e hi => by
    obtain ⟨l, d⟩ := F w s σ H h e
    exact ⟨xs, l, by rw [d.length]; exact hi⟩
def enumD : Nat → List D → List D
  | _, [] => []
  | n, d :: r => .tuple [.int n, d] :: enumD (n + 1) r
theorem enumD_len : ∀ (n : Nat) (ds : List D), (enumD n ds).length = ds.length
  | _, [] => rfl
  | n, d :: r => by simp [enumD, enumD_len (n + 1) r]
theorem enumD_get : ∀ (n : Nat) (ds : List D) (i : Nat) (d : D), ds[i]? = some d → (enumD n ds)[i]? = some (.tuple [.int ((n + i : Nat) : Int), d])
  | _, [], _, _, h => by simp at h
  | n, x :: r, 0, d, h => by simp at h; subst h; simp [enumD]
  | n, x :: r, i + 1, d, h => by
    have := enumD_get (n + 1) r i d (by simpa using h)
    simp only [enumD, List.getElem?_cons_succ]
    rw [this]
    congr 5
    omega
theorem it_enum {a : Addr} {xs : List V} {ds : List D} (F : Fix K mg a xs ds w0 s0 H0) : ItOk K mg (Ite K a) (enumD 0 ds) w0 s0 H0 where
  go := fun i w s σ H h e hi => by
    obtain ⟨l, d⟩ := F w s σ H h e
    rw [enumD_len] at hi
    have hx : i < xs.length := by rw [d.length]; exact hi
    exact ⟨xs, xs[i], l, by simp [hx]⟩
  yld := fun i w s σ H x H' h e hi ⟨T, y, e0, e1, e2, e3⟩ => by
    obtain ⟨l, d⟩ := F w s σ H h e
    subst e0 e2
    obtain ⟨y', g1, g2⟩ := d.getV (e3 xs l)
    refine ⟨_, enumD_get 0 ds i y' g1, h.lay e1, Ext.lay e1 (Nat.le_refl _), .tup (.inl (.inl upd_same)) (.cons ?_ (.cons (g2.stay (stay_upd e1)) .nil))⟩
    rw [Nat.zero_add]
    exact .int _
  stop := fun i w s σ H h e hi => by
    obtain ⟨l, d⟩ := F w s σ H h e
    rw [enumD_len] at hi
    exact ⟨xs, l, by rw [d.length]; exact hi⟩
def zipD : List D → List D → List D
  | a :: as, b :: bs => .tuple [a, b] :: zipD as bs
  | _, _ => []
/-- walked as a tuple -/
theorem it_tup (hS : StR K mg w0 s0 σ H0) {a : Addr} {xs : List V} {ds : List D} (l : SqT K H0 a xs) (d : Dens K w0.Z H0 xs ds) : ItOk K mg (Itt K a) ds w0 s0 H0 where
  go := fun i w s σ H h e hi => by
    have y := hS.stay e
    have hx : i < xs.length := by rw [d.length]; exact hi
    exact ⟨xs, xs[i], SqT.stay y l, by simp [hx]⟩
  yld := fun i w s σ H x H' h e hi ⟨e1, e2⟩ => by
    have y := hS.stay e
    subst e1
    obtain ⟨z, g1, g2⟩ := (d.stay y).getV (e2 xs (SqT.stay y l))
    exact ⟨z, g1, h, Ext.refl (Nat.le_refl _), g2⟩
  stop := fun i w s σ H h e hi => by
    have y := hS.stay e
    exact ⟨xs, SqT.stay y l, by rw [d.length]; exact hi⟩
/-- lo, lo + c, .. -/
def rngD (lo c : Int) (n : Nat) : List D := (List.range n).map fun i => .int (lo + (i : Nat) * c)
theorem rngD_get {lo c : Int} {n i : Nat} (h : i < n) : (rngD lo c n)[i]? = some (.int (lo + (i : Nat) * c)) := by simp [rngD, h]
theorem it_rng {lo : Int} {n : Nat} : ItOk K mg (Itr lo n) (rngD lo 1 n) w0 s0 H0 where
  go := fun i w s σ H h e hi => show i < n by simpa [rngD] using hi
  yld := fun i w s σ H x H' h e hi ⟨e1, e2⟩ => by
    subst e1 e2
    have hn : i < n := by simpa [rngD] using hi
    refine ⟨_, rngD_get hn, h, Ext.refl (Nat.le_refl _), ?_⟩
    rw [Int.mul_one]
    exact .int _
  stop := fun i w s σ H h e hi => show n ≤ i by simpa [rngD] using hi
end
end E
/-! ET: enumerate of a tuple. -/
namespace PySem
open Sem (wp)
open AutoSeq1 (wpAny_loadPart')
theorem meets_enumT (l : Addr) (items : Array Value) (o : Obj) (ht : o.cls = .type "tuple") (hd : ∃ n, o.data = .seq items n) :
    Meets (Builtin.«enumerate.__new__» ⟨[.type "enumerate", .ref l], []⟩) (fun _ R s => s.heap.get? l = some o ∧
      R (.ok (.ret (.ref (s.heap.push { cls := .type "tuple_iterator", data := .fields #[.ref l, .int 0 0] }).objs.size)))
        { s with heap := (s.heap.push { cls := .type "tuple_iterator", data := .fields #[.ref l, .int 0 0] }).push { cls := .type "enumerate", data := .fields #[.none, .bool false, .ref s.heap.objs.size, rawInt 0, .none, .none] } }) :=
  .of_wp fun prog w A R s h => by
    obtain ⟨hp, g, d, tk, os⟩ := s; obtain ⟨hl, h⟩ := h
    have hsub := sub_enumerate
    have hL : Heap.IsTuple (Shared.heap ⟨hp, g, d, tk, os⟩) l items := ⟨_, hl, ht, hd⟩
    wp_walk using wpAny_loadPart' hl
    refine wpAny_stack_any fun st => wpAny_pure ?_
    split
    · rename_i c _ _ _ _ _
      cases (c == Value.type "enumerate")
      · wp_walk using wpAny_loadPart' hl, wpAny_pyIter_tuple hL
        exact ⟨_, rfl, h⟩
      · wp_walk using wpAny_loadPart' hl, wpAny_pyIter_tuple hL
        exact ⟨_, rfl, h⟩
    · wp_walk using wpAny_loadPart' hl, wpAny_pyIter_tuple hL
      exact ⟨_, rfl, h⟩
section
variable {prog : Program} {w : World} {A : Around} {E : Value → Shared → Prop} {s : Shared}
theorem call_enumT {l : Addr} {items : Array Value} {Q : Value → Shared → Prop} (hL : s.heap.IsTuple l items)
    (h : ∀ h', IsEnum h' (s.heap.objs.size + 1) s.heap.objs.size 0 .none → h'.IsTupleIter s.heap.objs.size l 0 → h'.objs.size = s.heap.objs.size + 2 →
      (∀ b o, s.heap.get? b = some o → h'.get? b = some o) → Q (.ref (s.heap.objs.size + 1)) { s with heap := h' }) :
    wpAny (model prog w) A (call (.type "enumerate") [.ref l]) Q E s := by
  obtain ⟨o, hl, hc, hd⟩ := hL
  refine callType_new F.called_enumerate (by decide) (F.typeCall_enumerate_1 _) (F.newCall_enumerate_1 _) (fun obj => F.args_object_init_2 obj _) F.entry_enumerate_new
    (meets_enumT l items o hc hd) ⟨hl, ?_⟩
  have hz : (s.heap.push { cls := .type "tuple_iterator", data := .fields #[.ref l, .int 0 0] }).objs.size = s.heap.objs.size + 1 := Heap.size_push ..
  show _ ∧ _
  rw [hz]
  have he : IsEnum ((s.heap.push { cls := .type "tuple_iterator", data := .fields #[.ref l, .int 0 0] }).push
      { cls := .type "enumerate", data := .fields #[.none, .bool false, .ref s.heap.objs.size, rawInt 0, .none, .none] }) (s.heap.objs.size + 1) s.heap.objs.size 0 .none := by
    have := Heap.get?_push_size (s.heap.push { cls := .type "tuple_iterator", data := .fields #[.ref l, .int 0 0] })
      (o := { cls := .type "enumerate", data := .fields #[.none, .bool false, .ref s.heap.objs.size, rawInt 0, .none, .none] }) rfl
    rw [hz] at this; exact this
  refine ⟨⟨_, he, rfl⟩, h _ he ⟨_, Heap.get?_push_of_some _ (Heap.get?_push_size _ rfl), rfl, rfl⟩ (by rw [Heap.size_push, hz]) fun b o x => Heap.get?_push_of_some _ (Heap.get?_push_of_some _ x)⟩
end
end PySem
namespace E
open PySem PySem.Spec PyProof.Rows L2
/-- the tuple at a as it stands at each turn, each item in a new pair -/
def IteT (K : PySem.W.Frag) (a : Addr) : It :=
  ⟨fun i H => ∃ (xs : List V) (x : V), SqT K H a xs ∧ xs[i]? = some x, fun i H v H' => ∃ T x, v = .ref T ∧ H T = none ∧ H' = upd H T (.tup [.int (i : Nat), x]) ∧ ∀ xs, SqT K H a xs → xs[i]? = some x, fun i H => ∃ xs : List V, SqT K H a xs ∧ xs.length ≤ i⟩
theorem turn_enumT {P : Program} {w : World} {K : PySem.W.Frag} {elts : List Expr} {kk : Nat} {tpos : Pos} (a e it : Addr) :
    Turn P w K (.Tuple elts kk tpos) (IteT K a) [e, it] e (fun i h => (∃ old, IsEnum h e it ((i : Nat) : Int) old) ∧ h.IsTupleIter it a i ∧ e ≠ it) where
  mem := by simp
  obj := fun i h st b hb => by
    obtain ⟨⟨old, he⟩, ⟨o, ho, hc, hd⟩, _⟩ := st
    have e' : b = e ∨ b = it := by simpa using hb
    rcases e' with z | z
    · rw [z]; exact ⟨_, he, fun v q => nomatch q⟩
    · rw [z]; exact ⟨o, ho, fun v q => by rw [hd] at q; cases q⟩
  keep := fun i h h' st k => let ⟨⟨old, he⟩, hi, hne⟩ := st; ⟨⟨old, k e (by simp) _ he⟩, hi.at fun o q => k it (by simp) o q, hne⟩
  item := by
    intro X hP hw hK hc i pins s σ H E I hf st hg
    subst hP hw hK
    obtain ⟨⟨old, he⟩, hit, hne⟩ := st
    obtain ⟨xs, x, hq, hx⟩ := hg
    obtain ⟨its, rv, p, hz⟩ := I.tuple hq
    obtain ⟨u, hu, ru⟩ := rv.get hx
    have ht : s.heap.IsTuple a its.toArray := p
    have hel : e < s.heap.objs.size := Heap.lt_size he
    have hil : it < s.heap.objs.size := by obtain ⟨_, q, _⟩ := hit; exact Heap.lt_size q
    have hat : a ≠ it := fun z => by
      subst z
      obtain ⟨o, q1, q2, _⟩ := hit
      obtain ⟨o', q3, q4, _⟩ := ht
      rw [q1] at q3; cases q3; rw [q2] at q4; exact absurd q4 (by decide)
    have hea : e ≠ a := fun z => by
      subst z
      obtain ⟨o', q3, q4, _⟩ := ht
      rw [he] at q3; cases q3; exact absurd (show (Value.type "enumerate") = .type "tuple" from q4) (by decide)
    have D := Draws.tuple (prog := X.prog) (w := X.w) (A := X.A.in1) (show X.A.in1.handled = none from I.ok.hd hc) it a hat its.toArray
    have hlt : i < its.toArray.size := by
      have : i < its.length := (List.getElem?_eq_some_iff.mp hu).1
      simpa using this
    refine wpAny_pyNext_enum_itemD D he ⟨hit, ht⟩ hlt hne (by simp [hne, hea]) fun x' h' tk hP ho hit' hT hsz hk => ?_
    have : x' = u := by
      have h1 : its.toArray[i]? = some x' := hP
      have h2 : its.toArray[i]? = some u := by simpa using hu
      rw [h1] at h2; exact Option.some.inj h2
    subst this
    refine ⟨_, rfl, wpAny_letOwnedTupleGo_enum (s := { s with heap := h', toks := tk + 1 }) ho fun h'' he' sb => ?_⟩
    have hT2 : h''.get? s.heap.objs.size = some { cls := .type "tuple", data := .seq #[.int i tk, x'] } := (sb.2 _ (Nat.ne_of_gt hel)).trans hT
    have new : ObjOk X.prog X.w (upd H s.heap.objs.size (.tup [.int (i : Nat), x])) h'' s.heap.objs.size (.tup [.int (i : Nat), x]) :=
      ⟨by show 2 ≤ sizeLine; decide, [.int i tk, x'], .cons ⟨_, rfl⟩ (.cons ru .nil), ⟨_, hT2, rfl, _, rfl⟩⟩
    have I1 : Inv X pins σ (upd H s.heap.objs.size (.tup [.int (i : Nat), x])) { s with heap := h'', toks := tk + 1 } :=
      I.turnedNew (ch := [e, it]) (fun b ob hb q => (sb.2 b (fun z => hb (by simp [z]))).trans (hk b ob (fun z => hb (by simp [z])) (fun z => hb (by simp [z])) q)) hf (Nat.le_refl _) new
    refine ⟨.ref s.heap.objs.size, _, I1, rfl, ⟨_, x, rfl, I.hok.fresh (Nat.le_refl _), rfl, fun ys hy => by rw [I.tuple_inj hy hq]; exact hx⟩, ⟨⟨x', ?_⟩, hit'.1.at fun o q => (sb.2 it (Ne.symm hne)).trans q, hne⟩, fun b hb => ?_⟩
    · have e1 : ((i + 1 : Nat) : Int) = (i : Int) + 1 := by omega
      rw [e1]; exact he'
    · have hb' : b < s.heap.objs.size := by
        have e' : b = e ∨ b = it := by simpa using hb
        rcases e' with z | z
        · rw [z]; exact hel
        · rw [z]; exact hil
      rw [upd_ne (Nat.ne_of_lt hb')]
      exact (hf b hb).1
  done := by
    intro X hP hw hK hc i pins s σ H E I hf st hg
    subst hP hw hK
    obtain ⟨⟨old, he⟩, hit, hne⟩ := st
    obtain ⟨xs, hq, hx⟩ := hg
    obtain ⟨its, rv, p, hz⟩ := I.tuple hq
    have ht : s.heap.IsTuple a its.toArray := p
    obtain ⟨f0, f1, f2, f3, f4, f5⟩ := hf it (by simp)
    have hl := rv.length
    have hat : a ≠ it := fun z => by
      subst z
      obtain ⟨o, q1, q2, _⟩ := hit
      obtain ⟨o', q3, q4, _⟩ := ht
      rw [q1] at q3; cases q3; rw [q2] at q4; exact absurd q4 (by decide)
    -- past the end an iterator stands where it ended
    have hT : s.TypeIs (.ref e) "enumerate" := ⟨_, he, rfl⟩
    unfold pyNext
    refine wpAny_bind (wpAny_attempt (wpAny_callSpecial?_slot (name := Str.ofString "__next__") hT F.slot_enumerate_next
      (wpAny_call_entry F.slot_enumerate_next hT F.entry_enumerate_next ?_ (F.args_enumerate_next_1 _))))
    show wpAny _ _ (field (.ref e) 2 >>= _) _ _ _
    refine wpAny_bind (wpAny_field he rfl (x := .ref it) rfl ?_)
    refine wpAny_bind (wpAny_nextOf_tuple_end (show X.A.in1.handled = none from I.ok.hd hc) hit ht (by simp; omega) fun h' x he' hx' => ?_)
    obtain ⟨o, ho, hc'⟩ := hx'
    refine wpAny_bind (wpAny_isInstance (T := "StopIteration") (b := true) ⟨o, ho, hc'⟩ isSubtype_stop ?_)
    exact wpAny_pure ⟨rfl, I.turned (t' := s.toks) (fun b o hb q => he' b o hb q) f0 f1 f3 f4 f5⟩
  self := fun A i s Q E st h => let ⟨⟨_, he⟩, _⟩ := st; wpAny_pyIter_enum he h
def iEnum2 (K : PySem.W.Frag) (ta : TA) : TI := fun σ H R => ta σ H fun vs H1 => ∃ a xs, vs = [.ref a] ∧ ((SqL K H1 a xs ∧ R (Ite K a) H1) ∨ (SqT K H1 a xs ∧ R (IteT K a) H1))
theorem pi_enum2 {X : Cx} {e : Expr} {ta : TA} {p pos tpos : Pos} {elts : List Expr} {kk : Nat} (hg : Gl X "enumerate") (hm : X.mg "enumerate" = none) (ha : PA X [e] ta) (hs : starEach [e] X.env = [(false, eval e X.env)] := by rfl) :
    PI X (.Tuple elts kk tpos) (.Call (.Name "enumerate" p) [e] [] pos) (iEnum2 X.K ta) := by
  refine ⟨fun pins s σ H R I h => ?_⟩
  refine Call_ (ld_blt I hg hm boot_enumerate (PyProof.Rows.callWith_type1 (thn (ha.run pos pins s σ H _ I h) fun us s1 ⟨vs, H1, I1, r1, q1⟩ => ?_) hs rfl))
  obtain ⟨a, xs, ex, hq⟩ := q1
  subst ex
  cases r1 with
  | cons r rr =>
    cases rr
    cases r
    have fp : ∀ b ∈ [s1.heap.objs.size + 1, s1.heap.objs.size], s1.heap.objs.size ≤ b := fun b hb => by
      have e' : b = s1.heap.objs.size + 1 ∨ b = s1.heap.objs.size := by simpa using hb
      rcases e' with z | z
      · rw [z]; exact Nat.le_add_right _ _
      · rw [z]; exact Nat.le_refl _
    rcases hq with ⟨hq, q⟩ | ⟨hq, q⟩
    · obtain ⟨its, rv, p', hz⟩ := I1.list hq
      refine call_enumerate_list p'.isList fun h' he hit hsz hk => wpAny_pyIter_enum he ?_
      have I2 : Inv X pins σ H1 { s1 with heap := h' } := I1.kept (t' := s1.toks) hk
      exact ⟨s1.heap.objs.size + 1, [s1.heap.objs.size + 1, s1.heap.objs.size], _, _, H1, rfl, I2, turn_enum a (s1.heap.objs.size + 1) s1.heap.objs.size, ⟨⟨.none, he⟩, hit, Nat.succ_ne_self _⟩, fun b hb => I1.fpOk (fp b hb) (I1.hok.fresh (fp b hb)), q⟩
    · obtain ⟨its, rv, p', hz⟩ := I1.tuple hq
      refine call_enumT (show s1.heap.IsTuple a its.toArray from p') fun h' he hit hsz hk => wpAny_pyIter_enum he ?_
      have I2 : Inv X pins σ H1 { s1 with heap := h' } := I1.kept (t' := s1.toks) hk
      exact ⟨s1.heap.objs.size + 1, [s1.heap.objs.size + 1, s1.heap.objs.size], _, _, H1, rfl, I2, turn_enumT a (s1.heap.objs.size + 1) s1.heap.objs.size, ⟨⟨.none, he⟩, hit, Nat.succ_ne_self _⟩, fun b hb => I1.fpOk (fp b hb) (I1.hok.fresh (fp b hb)), q⟩
section
variable {K : PySem.W.Frag} {mg : Str → Option Value} {w w' w₂ w0 w1 : Wd} {s s' s₂ s0 s1 : S} {H H' H₂ H0 H1 : Hp} {σ : St} {p q : Nat}
theorem it_enumT (hS : StR K mg w0 s0 σ H0) {a : Addr} {xs : List V} {ds : List D} (l : SqT K H0 a xs) (d : Dens K w0.Z H0 xs ds) : ItOk K mg (IteT K a) (enumD 0 ds) w0 s0 H0 where
  go := fun i w s σ H h e hi => by
    have y := hS.stay e
    rw [enumD_len] at hi
    have hx : i < xs.length := by rw [d.length]; exact hi
    exact ⟨xs, xs[i], SqT.stay y l, by simp [hx]⟩
  yld := fun i w s σ H x H' h e hi ⟨T, y, e0, e1, e2, e3⟩ => by
    have ys := hS.stay e
    subst e0 e2
    obtain ⟨y', g1, g2⟩ := (d.stay ys).getV (e3 xs (SqT.stay ys l))
    refine ⟨_, enumD_get 0 ds i y' g1, h.lay e1, Ext.lay e1 (Nat.le_refl _), .tup (.inl (.inl upd_same)) (.cons ?_ (.cons (g2.stay (stay_upd e1)) .nil))⟩
    rw [Nat.zero_add]
    exact .int _
  stop := fun i w s σ H h e hi => by
    have y := hS.stay e
    rw [enumD_len] at hi
    exact ⟨xs, SqT.stay y l, by rw [d.length]; exact hi⟩
end
end E
/-! E9: iterators' rules; for and while. -/
namespace E
open PySem PySem.Spec PyProof.Rows L2

def enumR (s : S) (r : R) (s1 : S) : Res (List D × List Nat) := match r with
  | .sh (.tuple ds) => .ok (enumD 0 ds, []) s1
  | r => (lkL s r s1).bind fun q s2 => .ok (enumD 0 q.1, q.2) s2
theorem enumR_eq {s : S} {r : R} {s1 : S} (h : ∀ ds, r ≠ .sh (.tuple ds)) : enumR s r s1 = (lkL s r s1).bind fun q s2 => .ok (enumD 0 q.1, q.2) s2 := by
  cases r with
  | own c => rfl
  | ex _ => rfl
  | sh d =>
    cases d with
    | tuple ds => exact absurd rfl (h ds)
    | none => rfl
    | bool _ => rfl
    | int _ => rfl
    | str _ => rfl
    | list _ => rfl
    | dict _ => rfl
def enumI (f : AS) : IS := fun s => (f s).bind fun rs s1 => match rs with
  | [r] => enumR s r s1
  | _ => .bad
def zipI (f : AS) : IS := fun s => (f s).bind fun rs s1 => match rs with
  | [r, m] => (lkL s r s1).bind fun q s2 => (lkL s m s2).bind fun q' s3 => .ok (zipD q.1 q'.1, q.2 ++ q'.2) s3
  | _ => .bad
def small62 (i : Int) : Prop := -(2 ^ 62) ≤ i ∧ i < 2 ^ 62
/-- not to be computed (an Int against 2 ^ 62 would be counted down in the kernel) -/
noncomputable instance (i : Int) : Decidable (small62 i) := Classical.propDecidable _
def S.int (s : S) (r : R) : Option Int := match s.look r with
  | some (.int j) => some j
  | _ => none
def S.ints (s : S) : List R → Option (List Int)
  | [] => some []
  | r :: rs => match s.int r with
    | some i => (s.ints rs).map (i :: ·)
    | none => none
noncomputable def rng1 : List Int → S → Res (List D × List Nat)
  | [j], s1 => if small62 j then .ok (rngD 0 1 j.toNat, []) s1 else .bad
  | _, _ => .bad
noncomputable def rng2 : List Int → S → Res (List D × List Nat)
  | [i, j], s1 => if small62 i ∧ small62 j then .ok (rngD i 1 (j - i).toNat, []) s1 else .bad
  | _, _ => .bad
noncomputable def rng3 : List Int → S → Res (List D × List Nat)
  | [i, j, c], s1 =>
    if c = -1 then (if small62 i ∧ small62 j then .ok (rngD i (-1) (i - j).toNat, []) s1 else .bad)
    else if c ≠ 0 ∧ c.natAbs < 1073741824 ∧ Builtin.Range.small i j c = true ∧ 0 ≤ Builtin.Range.rangeSize i j c then .ok (rngD i c (Builtin.Range.rangeSize i j c).toNat, []) s1 else .bad
  | _, _ => .bad
def rngI (g : List Int → S → Res (List D × List Nat)) (f : AS) : IS := fun s => (f s).bind fun rs s1 => match s1.ints rs with
  | some is => g is s1
  | none => .bad
section
variable {K : PySem.W.Frag} {mg : Str → Option Value} {w : Wd} {s : S} {H : Hp} {σ : St}
theorem int_ok (hS : StR K mg w s σ H) {r : R} {j : Int} {v : V} (h : s.int r = some j) (hr : RR K mg w s.ce.length H v r) : v = .int j := by
  unfold S.int at h
  split at h
  · rename_i e
    cases h
    exact (look_ok hS e hr).int
  · cases h
theorem ints_ok (hS : StR K mg w s σ H) : ∀ {rs : List R} {js : List Int} {vs : List V}, s.ints rs = some js → RRs K mg w s.ce.length H vs rs → vs = js.map V.int
  | [], _, _, h, hr => by
    cases hr
    have := Option.some.inj h
    subst this
    rfl
  | r :: rs, js, _, h, hr => by
    cases hr with
    | cons h1 h2 =>
      unfold S.ints at h
      split at h
      · rename_i i e
        obtain ⟨ks, e2, rfl⟩ := Option.map_eq_some_iff.mp h
        rw [int_ok hS e h1, ints_ok hS e2 h2]
        rfl
      · cases h
end
section
variable {X : Cx} {W : WX} {tg e a b c : Expr} {f : ES} {fa : AS} {pos p tpos : Pos} {elts : List Expr} {kk : Nat}
theorem si_seq (he : SE X W e f) : SI X W tg e (seqI f) := by
  refine ⟨fun pins s0 σ H R I ⟨w, s, hS, h⟩ => ?_⟩
  have tup : ∀ ds s1, f s = .ok (.sh (.tuple ds)) s1 → iTup X.K (tE X.K X.mg W f) σ H R := fun ds s1 ef => by
    unfold seqI at h
    refine ⟨w, s, hS, ?_⟩
    rw [ef] at h ⊢
    intro w1 H1 hS1 e1 v hv
    cases (show Den X.K w1.Z H1 v (.tuple ds) from hv) with
    | tup l d => exact ⟨_, rfl, ⟨_, l⟩, h w1 H1 hS1 e1 (fun c hc => by cases hc) _ (it_tup hS1 l d)⟩
  have lst : (∀ ds s1, f s ≠ .ok (.sh (.tuple ds)) s1) → iList X.K (tE X.K X.mg W f) σ H R := fun hn => by
    unfold seqI at h
    refine ⟨w, s, hS, ?_⟩
    cases ef : f s with
    | ok r s1 =>
      rw [ef] at h
      intro w1 H1 hS1 e1 v hv
      have h2 : Post X.K X.mg W σ s.ce.length w s H (lkL s r s1) (fun w1 q s1 H1 => Locked w s w1 s1 q.2 → ∀ J, ItOk X.K X.mg J q.1 w1 s1 H1 → R J H1) := by
        cases r with
        | own c => exact h
        | ex _ => exact h
        | sh d =>
          cases d with
          | tuple ds => exact (hn ds s1 ef).elim
          | _ => exact h
      cases el : lkL s r s1 with
      | ok q s2 =>
        obtain ⟨ds, cs⟩ := q
        rw [el] at h2
        obtain ⟨w2, a, xs, rfl, g1, g2, F, L⟩ := lkL_ok hS1 e1 hv el
        refine ⟨a, rfl, ⟨xs, (F w2 s2 σ H1 g1 (Ext.refl (Nat.zero_le _))).1⟩, ?_⟩
        exact h2 w2 H1 g1 (e1.trans g2 e1.ln) L _ (it_list F)
      | exc x s2 => exact (lkL_noexc el).elim
      | bad => rw [el] at h2; exact h2.elim
    | exc x s1 => rw [ef] at h; exact h
    | bad => rw [ef] at h; exact h
  cases ef : f s with
  | ok r s1 =>
    cases r with
    | ex _ => exact (pi_list he).run pins s0 σ H R I (lst fun ds s2 z => by rw [ef] at z; cases z)
    | own c => exact (pi_list he).run pins s0 σ H R I (lst fun ds s2 z => by rw [ef] at z; cases z)
    | sh d =>
      by_cases hd : ∃ ds, d = .tuple ds
      · obtain ⟨ds, rfl⟩ := hd
        exact (pi_tup he).run pins s0 σ H R I (tup ds s1 ef)
      · exact (pi_list he).run pins s0 σ H R I (lst fun ds s2 z => by rw [ef] at z; cases z; exact hd ⟨ds, rfl⟩)
  | exc x s1 => exact (pi_list he).run pins s0 σ H R I (lst fun ds s2 z => by rw [ef] at z; cases z)
  | bad => exact (pi_list he).run pins s0 σ H R I (lst fun ds s2 z => by rw [ef] at z; cases z)
/-- the lists of several values -/
theorem si_enum (hg : Gl X "enumerate") (hm : X.mg "enumerate" = none) (ha : SA X W [e] fa) (hs : starEach [e] X.env = [(false, eval e X.env)] := by rfl) :
    SI X W (.Tuple elts kk tpos) (.Call (.Name "enumerate" p) [e] [] pos) (enumI fa) := by
  refine ⟨fun pins s0 σ H R I ⟨w, s, hS, h⟩ => (pi_enum2 hg hm ha hs).run pins s0 σ H R I ⟨w, s, hS, ?_⟩⟩
  unfold enumI at h
  refine Post.mono (Post.split h) fun w1 rs s1 H1 _ _ ⟨hS1, e1, h1⟩ vs hvs => ?_
  replace h1 := h1 s.ce.length (Nat.le_refl _)
  rcases rs with _ | ⟨r, _ | ⟨m, rs⟩⟩
  · exact h1.elim
  · obtain ⟨v, rfl, hv⟩ := hvs.one
    dsimp only at h1
    by_cases ht : ∃ ds, r = .sh (.tuple ds)
    · obtain ⟨ds, rfl⟩ := ht
      have hd : Den X.K w1.Z H1 v (.tuple ds) := hv
      cases hd with
      | tup l d =>
        refine ⟨_, _, rfl, .inr ⟨l, ?_⟩⟩
        exact h1 w1 H1 hS1 (Ext.refl e1.ln) (fun c hc => by simp at hc) _ (it_enumT hS1 l d)
    rw [enumR_eq (fun ds e => ht ⟨ds, e⟩)] at h1
    cases el : lkL s r s1 with
    | ok q s2 =>
      obtain ⟨ds, cs⟩ := q
      rw [el] at h1
      obtain ⟨w2, a, xs, rfl, g1, g2, F, L⟩ := lkL_ok hS1 e1 hv el
      refine ⟨a, xs, rfl, .inl ⟨(F w2 s2 σ H1 g1 (Ext.refl (Nat.zero_le _))).1, ?_⟩⟩
      exact h1 w2 H1 g1 (g2.mono e1.ln) L _ (it_enum F)
    | exc x s2 => exact (lkL_noexc el).elim
    | bad => rw [el] at h1; exact h1.elim
  · exact h1.elim
theorem rng_at {g : List Int → S → Res (List D × List Nat)} {w : Wd} {s : S} {σ : St} {H : Hp} {R : It → Hp → Prop} {Z : List V → Hp → Prop} (hS : StR X.K X.mg w s σ H) (h : Post X.K X.mg W σ s.ce.length w s H (rngI g fa s) (fun w1 q s1 H1 => Locked w s w1 s1 q.2 → ∀ J, ItOk X.K X.mg J q.1 w1 s1 H1 → R J H1))
    (hg : ∀ is s1 ds s2, g is s1 = .ok ds s2 → s2 = s1 ∧ ds.2 = []) (hx : ∀ is s1 x s2, g is s1 ≠ .exc x s2)
    (k : ∀ is s1 ds H1, g is s1 = .ok (ds, []) s1 → (∀ J, (∀ w s H, ItOk X.K X.mg J ds w s H) → R J H1) → Z (is.map V.int) H1) : tA X.K X.mg W fa σ H Z := by
  unfold rngI at h
  refine ⟨w, s, hS, Post.mono (Post.split h) fun w1 rs s1 H1 _ _ ⟨hS1, e1, h1⟩ vs hvs => ?_⟩
  replace h1 := h1 s.ce.length (Nat.le_refl _)
  cases ei : s1.ints rs with
  | none => rw [ei] at h1; exact h1.elim
  | some is =>
    rw [ei] at h1
    have h1 : Post X.K X.mg W σ s.ce.length w1 s1 H1 (g is s1) _ := h1
    rw [ints_ok hS1 ei hvs]
    cases eg : g is s1 with
    | bad => rw [eg] at h1; exact h1.elim
    | exc x s2 => exact (hx _ _ _ _ eg).elim
    | ok q s2 =>
      obtain ⟨ds, cs⟩ := q
      obtain ⟨rfl, e⟩ := hg _ _ _ _ eg
      have e : cs = [] := e
      subst e
      rw [eg] at h1
      exact k is _ ds H1 eg fun J hJ => h1 w1 H1 hS1 (Ext.refl e1.ln) (fun c hc => by cases hc) J (hJ _ _ _)
theorem rng1_ok {is : List Int} {s1 s2 : S} {ds : List D × List Nat} (h : rng1 is s1 = .ok ds s2) : ∃ j, is = [j] ∧ small62 j ∧ ds = (rngD 0 1 j.toNat, []) ∧ s2 = s1 := by
  unfold rng1 at h
  split at h
  · split at h
    · rename_i hj
      cases h
      exact ⟨_, rfl, hj, rfl, rfl⟩
    · cases h
  · cases h
theorem rng2_ok {is : List Int} {s1 s2 : S} {ds : List D × List Nat} (h : rng2 is s1 = .ok ds s2) : ∃ i j, is = [i, j] ∧ small62 i ∧ small62 j ∧ ds = (rngD i 1 (j - i).toNat, []) ∧ s2 = s1 := by
  unfold rng2 at h
  split at h
  · split at h
    · rename_i hj
      cases h
      exact ⟨_, _, rfl, hj.1, hj.2, rfl, rfl⟩
    · cases h
  · cases h
theorem si_rng1 (hg : Gl X "range") (hm : X.mg "range" = none) (ha : SA X W [a] fa) (hs : starEach [a] X.env = [(false, eval a X.env)] := by rfl) : SI X W tg (.Call (.Name "range" p) [a] [] pos) (rngI rng1 fa) := by
  refine ⟨fun pins s0 σ H R I ⟨w, s, hS, h⟩ => (pi_range1 hg hm ha hs).run pins s0 σ H R I (rng_at hS h (fun is s1 ds s2 e => ?_) (fun is s1 x s2 e => ?_) fun is s1 ds H1 e k => ?_)⟩
  · obtain ⟨_, _, _, rfl, e2⟩ := rng1_ok e; exact ⟨e2, rfl⟩
  · unfold rng1 at e; (repeat (split at e <;> try cases e))
  · obtain ⟨j, rfl, hj, e2, _⟩ := rng1_ok e
    cases e2
    exact ⟨j, rfl, hj.1, hj.2, k _ fun _ _ _ => it_rng⟩
theorem si_rng2 (hg : Gl X "range") (hm : X.mg "range" = none) (ha : SA X W [a, b] fa) (hs : starEach [a, b] X.env = [(false, eval a X.env), (false, eval b X.env)] := by rfl) (hs2 : starEach [b] X.env = [(false, eval b X.env)] := by rfl) :
    SI X W tg (.Call (.Name "range" p) [a, b] [] pos) (rngI rng2 fa) := by
  refine ⟨fun pins s0 σ H R I ⟨w, s, hS, h⟩ => (pi_range2 hg hm ha hs hs2).run pins s0 σ H R I (rng_at hS h (fun is s1 ds s2 e => ?_) (fun is s1 x s2 e => ?_) fun is s1 ds H1 e k => ?_)⟩
  · obtain ⟨_, _, _, _, _, rfl, e2⟩ := rng2_ok e; exact ⟨e2, rfl⟩
  · unfold rng2 at e; (repeat (split at e <;> try cases e))
  · obtain ⟨i, j, rfl, hi, hj, e2, _⟩ := rng2_ok e
    cases e2
    exact ⟨i, j, rfl, ⟨hi.1, hi.2, hj.1, hj.2⟩, k _ fun _ _ _ => it_rng⟩
end
end E
/-! E10: targets; for and while. -/
namespace E
open PySem PySem.Spec PyProof.Rows L2

/-- a loop's target -/
inductive Tg where
  | nm (i : Nat)
  | tp (ts : List Tg)
mutual
def gT (K : PySem.W.Frag) : Tg → TG
  | .nm i => gName i
  | .tp ts => gTup K ts.length (gTs K ts)
def gTs (K : PySem.W.Frag) : List Tg → TGs
  | [] => gNil
  | t :: ts => gCons (gT K t) (gTs K ts)
end
mutual
def setT : Tg → D → S → Option S
  | .nm i, d, s => if i < s.sl.length then some { s with sl := s.sl.set i (some (.sh d)) } else none
  | .tp ts, .tuple ds, s => setTs ts ds s
  | _, _, _ => none
def setTs : List Tg → List D → S → Option S
  | [], [], s => some s
  | t :: ts, d :: ds, s => match setT t d s with
    | some s1 => setTs ts ds s1
    | none => none
  | _, _, _ => none
end
mutual
def Tg.slots : Tg → List Nat
  | .nm i => [i]
  | .tp ts => Tg.slotss ts
def Tg.slotss : List Tg → List Nat
  | [] => []
  | t :: ts => Tg.slots t ++ Tg.slotss ts
end
theorem wipe_get : ∀ {vs : List Nat} {σ : St} {j : Nat}, (wipe σ vs)[j]? = if j ∈ vs ∧ j < σ.length then some none else σ[j]?
  | [], σ, j => by simp [wipe]
  | v :: vs, σ, j => by
    unfold wipe
    by_cases hv : v = j
    · subst hv
      by_cases hl : v < σ.length
      · rw [List.getElem?_set_self (by rw [wipe_length]; exact hl), if_pos ⟨List.mem_cons_self, hl⟩]
      · rw [List.getElem?_eq_none (by rw [List.length_set, wipe_length]; omega), if_neg (fun z => hl z.2), List.getElem?_eq_none (by omega)]
    · rw [List.getElem?_set_ne hv, wipe_get]
      have : (j ∈ v :: vs) ↔ j ∈ vs := by simp [Ne.symm hv]
      simp only [this]
theorem wipe_eq {vs : List Nat} {σ σ' : St} (hl : σ'.length = σ.length) (h : ∀ j, j ∉ vs → σ'[j]? = σ[j]?) : wipe σ' vs = wipe σ vs := by
  apply List.ext_getElem?
  intro j
  rw [wipe_get, wipe_get, hl]
  by_cases hj : j ∈ vs
  · by_cases hlt : j < σ.length
    · rw [if_pos ⟨hj, hlt⟩, if_pos ⟨hj, hlt⟩]
    · rw [if_neg (fun z => hlt z.2), if_neg (fun z => hlt z.2), List.getElem?_eq_none (by omega), List.getElem?_eq_none (by omega)]
  · rw [if_neg (fun z => hj z.1), if_neg (fun z => hj z.1)]
    exact h j hj
/-- a slot is forgotten -/
def S.forget (s : S) (i : Nat) : S := { s with sl := s.sl.set i none, ce := match s.cellAt (s.np + i) with
  | .lk _ => s.ce
  | _ => s.ce.set (s.np + i) .dead }
def S.clean (dr : List Nat) (s : S) : S := dr.foldl S.forget s.tr
section
variable {K : PySem.W.Frag} {mg : Str → Option Value} {W : WX} {w w' w₂ : Wd} {s s' s₂ : S} {H H' H₂ : Hp} {σ : St} {p q : Nat}
theorem setTs_len : ∀ {ts : List Tg} {ds : List D} {s s' : S}, setTs ts ds s = some s' → ts.length = ds.length
  | [], [], _, _, _ => rfl
  | t :: ts, d :: ds, s, s', h => by
    unfold setTs at h
    split at h
    · simp [setTs_len h]
    · cases h
  | [], _ :: _, _, _, h => by unfold setTs at h; cases h
  | _ :: _, [], _, _, h => by unfold setTs at h; cases h
mutual
theorem setT_ok : ∀ {t : Tg} {d : D} {v : V} {s s' : S} {σ : St} {Q : St → Hp → Prop}, StR K mg w s σ H → Den K w.Z H v d → setT t d s = some s' → s.np ≤ s.ce.length →
    (∀ σ', StR K mg w s' σ' H → (σ'.length = σ.length ∧ ∀ j, j ∉ t.slots → σ'[j]? = σ[j]?) → s'.ce = s.ce ∧ s'.np = s.np ∧ s'.sl.length = s.sl.length → Q σ' H) → gT K t v σ H Q
  | .nm i, d, v, s, s', σ, Q, hS, hd, e, hn, k => by
    unfold setT at e
    split at e
    · cases e
      show Q _ _
      exact k _ (set_sl (r := .sh d) hS hd (fun c z => by cases z)) ⟨by simp, fun j hj => List.getElem?_set_ne (fun z => hj (by simp [Tg.slots, z]))⟩ ⟨rfl, rfl, by simp⟩
    · cases e
  | .tp ts, d, v, s, s', σ, Q, hS, hd, e, hn, k => by
    cases d with
    | tuple ds =>
      unfold setT at e
      cases hd with
      | tup l h =>
        show gTup K ts.length (gTs K ts) _ _ _ _
        exact ⟨_, _, rfl, l, by rw [h.length]; exact (setTs_len e).symm, setTs_ok hS h e hn fun σ' a b c => k σ' a (by simpa [Tg.slots] using b) c⟩
    | _ => unfold setT at e; cases e
theorem setTs_ok : ∀ {ts : List Tg} {ds : List D} {vs : List V} {s s' : S} {σ : St} {Q : St → Hp → Prop}, StR K mg w s σ H → Dens K w.Z H vs ds → setTs ts ds s = some s' → s.np ≤ s.ce.length →
    (∀ σ', StR K mg w s' σ' H → (σ'.length = σ.length ∧ ∀ j, j ∉ Tg.slotss ts → σ'[j]? = σ[j]?) → s'.ce = s.ce ∧ s'.np = s.np ∧ s'.sl.length = s.sl.length → Q σ' H) → gTs K ts vs σ H Q
  | [], [], vs, s, s', σ, Q, hS, hd, e, hn, k => by
    unfold setTs at e
    cases e
    cases hd
    exact ⟨rfl, k _ hS ⟨rfl, fun _ _ => rfl⟩ ⟨rfl, rfl, rfl⟩⟩
  | t :: ts, d :: ds, vs, s, s', σ, Q, hS, hd, e, hn, k => by
    unfold setTs at e
    cases e1 : setT t d s with
    | none => rw [e1] at e; cases e
    | some s1 =>
      rw [e1] at e
      cases hd with
      | cons h1 h2 =>
        refine ⟨_, _, rfl, setT_ok hS h1 e1 hn fun σ1 hS1 l1 ⟨a, b, c⟩ => ?_⟩
        exact setTs_ok hS1 h2 e (by rw [a, b]; exact hn) fun σ2 hS2 l2 ⟨a', b', c'⟩ => k σ2 hS2 ⟨l2.1.trans l1.1, fun j hj => (l2.2 j (fun z => hj (by simp [Tg.slotss, z]))).trans (l1.2 j (fun z => hj (by simp [Tg.slotss, z])))⟩ ⟨a'.trans a, b'.trans b, c'.trans c⟩
  | [], _ :: _, _, _, _, _, _, _, _, e, _, _ => by unfold setTs at e; cases e
  | _ :: _, [], _, _, _, _, _, _, _, e, _, _ => by unfold setTs at e; cases e
end
theorem forget_ce {i j : Nat} {x : Cell} (e : (s.forget i).ce[j]? = some x) : x = .dead ∨ s.ce[j]? = some x := by
  unfold S.forget at e
  dsimp only at e
  split at e
  · exact .inr e
  · by_cases hj : s.np + i = j
    · subst hj
      by_cases hi : s.np + i < s.ce.length
      · rw [List.getElem?_set_self hi] at e
        exact .inl (Option.some.inj e).symm
      · rw [List.getElem?_eq_none (by simpa using hi)] at e; cases e
    · rw [List.getElem?_set_ne hj] at e
      exact .inr e
theorem forget_len {i : Nat} : (s.forget i).ce.length = s.ce.length := by
  unfold S.forget
  dsimp only
  split
  · rfl
  · simp
theorem forget_ok (h : StR K mg w s σ H) (i : Nat) : StR K mg w (s.forget i) σ H ∧ Ext s.np w s H w (s.forget i) H := by
  have lsl : (s.forget i).sl.length = s.sl.length := by show (s.sl.set i none).length = _; simp
  have gsl : ∀ (j : Nat) (r : R), (s.forget i).sl[j]? = some (some r) → s.sl[j]? = some (some r) := fun j r e => by
    have e : (s.sl.set i none)[j]? = some (some r) := e
    by_cases hj : i = j
    · subst hj
      by_cases hi : i < s.sl.length
      · rw [List.getElem?_set_self hi] at e; cases e
      · rw [List.getElem?_eq_none (by simpa using hi)] at e; cases e
    · rw [List.getElem?_set_ne hj] at e; exact e
  have op : ∀ (j : Nat) (x : Cell), (s.forget i).ce[j]? = some x → x ≠ .dead → s.ce[j]? = some x := fun j x e hx => (forget_ce e).resolve_left hx
  refine ⟨⟨fun j x e => ?_, fun j k x y e1 e2 o1 o2 e3 => h.inj j k x y (op j x e1 (fun z => by subst z; cases o1)) (op k y e2 (fun z => by subst z; cases o2)) o1 o2 e3, fun j r e => ?_, by rw [lsl]; exact h.sn, h.zt, fun j c e => by rw [lsl]; exact h.sb j c (gsl j _ e), by rw [lsl, forget_len]; exact h.bs, fun j ds e => by rw [lsl]; exact h.lb j ds (op j _ e (by simp)), h.sm,
    h.tr_keep (s' := s.forget i) .refl (fun j d e => ⟨op j _ e (by simp), rfl, rfl⟩) (fun b _ o q => q) (fun _ _ z => z) fun b _ j x e o q => ⟨j, x, op j x e (fun z => by subst z; cases o), o, q⟩⟩,
    ⟨fun _ q => q, fun _ q => .inl q, fun _ _ q _ => q, fun b => lz2 (fun j x e cx eb => .inl (.inl ⟨j, x, op j _ e (fun z => by subst z; exact cx), cx, eb⟩)) (fun ⟨j, d, e, m⟩ => .inl (.inr ⟨j, d, op j _ e (by simp), m⟩)), fun _ _ => rfl, by rw [forget_len]; exact h.np_le, fun j ds e => ⟨?_, rfl⟩, rfl, lsl⟩⟩
  · rcases forget_ce e with rfl | e'
    · trivial
    · exact h.cl j x e'
  · obtain ⟨v, e1, e2⟩ := h.sl j r (gsl j r e)
    refine ⟨v, e1, ?_⟩
    cases r with
    | sh d => exact e2
    | ex _ => exact e2
    | own c => exact ⟨e2.1, by rw [forget_len]; exact e2.2⟩
  · unfold S.forget
    dsimp only
    cases ec : s.cellAt (s.np + i) with
    | lk es => exact e
    | _ =>
      show (s.ce.set (s.np + i) .dead)[j]? = _
      rw [List.getElem?_set_ne (fun z => by subst z; unfold S.cellAt at ec; rw [e] at ec; cases ec)]
      exact e
theorem clean_go : ∀ {dr : List Nat} {s : S}, StR K mg w s σ H → StR K mg w (dr.foldl S.forget s) σ H ∧ Ext s.np w s H w (dr.foldl S.forget s) H
  | [], s, h => ⟨h, Ext.refl h.np_le⟩
  | i :: dr, s, h => by
    obtain ⟨h1, e1⟩ := forget_ok h i
    obtain ⟨h2, e2⟩ := clean_go (dr := dr) h1
    exact ⟨h2, e1.trans e2 (Nat.le_of_eq e1.nq.symm)⟩
theorem clean_ok (h : StR K mg w s σ H) (dr : List Nat) : StR K mg w (s.clean dr) σ H ∧ Ext s.np w s H w (s.clean dr) H := by
  obtain ⟨h2, e2⟩ := clean_go (dr := dr) h.tr
  exact ⟨h2, (Ext.tr h).trans e2 (Nat.le_refl _)⟩
end

/-! ### for -/
def loopS (g : Tg) (dr : List Nat) (body : SS) (cs : List Nat) : List D → SS
  | [], s => doneS (s.unl cs)
  | d :: ds, s => match setT g d s with
    | none => .bad
    | some s1 => match body s1 with
      | .ok .nx s2 => loopS g dr body cs ds (s2.clean dr)
      | .ok .ct s2 => loopS g dr body cs ds (s2.clean dr)
      | .ok .bk s2 => doneS ((s2.clean dr).unl cs)
      | .ok (.rt r) s2 => .ok (.rt r) s2
      | .exc x s2 => .exc x s2
      | .bad => .bad
def forS (it : IS) (g : Tg) (dr : List Nat) (body : SS) : SS := fun s => (it s).bind fun q s1 => loopS g dr body q.2 q.1 (s1.clean dr)
section
variable {X : Cx} {W : WX} {K : PySem.W.Frag} {mg : Str → Option Value} {w w' w₂ : Wd} {s s' s₂ : S} {H H' H₂ : Hp} {σ : St} {p q : Nat} {B B' : Ends}
theorem PostS.split0 {α : Type} {r : Res α} {g : α → S → Res Fl} (h : PostS K mg W p w s H (r.bind g) B) (hS : StR K mg w s σ H) (hp : p ≤ s.ce.length) :
    Post K mg W σ s.ce.length w s H r (fun w1 a s1 H1 => StR K mg w1 s1 σ H1 ∧ Ext s.ce.length w s H w1 s1 H1 ∧ PostS K mg W p w s H (g a s1) B) := by
  cases r with
  | ok a s1 => exact fun w1 H1 h1 e1 => ⟨h1, e1, h⟩
  | exc x s1 => exact fun w1 H1 cls dd h1 e1 q => h w1 σ H1 cls dd h1 (e1.mono hp) q
  | bad => exact h
/-- the locked cells are opened at the loop's end -/
theorem loop_end {cs : List Nat} {w0 w1 : Wd} {s0 s1 : S} {H0 H1 : Hp} (L : Locked w0 s0 w1 s1 cs) (hS : StR K mg w s σ H) (e0 : Ext p w0 s0 H0 w s H) (e1 : Ext 0 w1 s1 H1 w s H) : StR K mg w (s.unl cs) σ H ∧ Ext p w0 s0 H0 w (s.unl cs) H := by
  refine unl_ok hS e0 (fun c hc => ?_) fun c hc => ?_
  · obtain ⟨ds, ds', h1, _⟩ := L c hc
    exact ⟨ds, h1⟩
  · obtain ⟨ds, ds', h1, h2, h3⟩ := L c hc
    exact (e1.lk c ds' h2).2.trans h3
theorem for_at {it : IS} {g : Tg} {dr : List Nat} {body : SS} (h : tS K mg W (forS it g dr body) B σ H) : tFor (tI K mg W it) (gT K g) (tS K mg W body) B σ H := by
  obtain ⟨w0, s0, hS, h⟩ := h
  refine ⟨w0, s0, hS, Post.mono (PostS.split0 h hS hS.np_le) fun w1 q s1 H1 _ _ ⟨hS1, e1, h1⟩ L J hJ => ?_⟩
  obtain ⟨ds, cs⟩ := q
  have L : Locked w0 s0 w1 s1 cs := L
  have hJ : ItOk K mg J ds w1 s1 H1 := hJ
  have h1 : PostS K mg W s0.np w0 s0 H (loopS g dr body cs ds (s1.clean dr)) B := h1
  have n1 : s1.np = s0.np := e1.nq
  refine ⟨fun i m σ' H' => m = ds.length - i ∧ i ≤ ds.length ∧ ∃ w' s', StR K mg w' s' σ' H' ∧ Ext s0.np w0 s0 H w' s' H' ∧ Ext s0.np w1 s1 H1 w' s' H' ∧ PostS K mg W s0.np w0 s0 H (loopS g dr body cs (ds.drop i) s') B, ⟨ds.length, by simp, Nat.zero_le _, ?_⟩, ?_⟩
  · obtain ⟨h2, e2⟩ := clean_ok hS1 dr
    rw [n1] at e2
    exact ⟨w1, _, h2, (e1.mono hS.np_le).trans e2 (Nat.le_refl _), e2, h1⟩
  · rintro i m σ' H' ⟨rfl, hi, w', s', hS', e0', e1', hp⟩
    have again : ∀ {s2 : S} {w2 : Wd} {σ2 : St} {H2 : Hp}, i < ds.length → StR K mg w2 s2 σ2 H2 → Ext s0.np w0 s0 H w2 s2 H2 → Ext s0.np w1 s1 H1 w2 s2 H2 → PostS K mg W s0.np w0 s0 H (loopS g dr body cs (ds.drop (i + 1)) (s2.clean dr)) B →
        (ds.length - (i + 1) = ds.length - (i + 1) ∧ i + 1 ≤ ds.length ∧ ∃ w' s', StR K mg w' s' σ2 H2 ∧ Ext s0.np w0 s0 H w' s' H2 ∧ Ext s0.np w1 s1 H1 w' s' H2 ∧ PostS K mg W s0.np w0 s0 H (loopS g dr body cs (ds.drop (i + 1)) s') B) := fun {s2 w2 σ2 H2} hlt g1 g2 g3 g4 => by
      obtain ⟨h2, e2⟩ := clean_ok g1 dr
      rw [g2.nq] at e2
      exact ⟨rfl, hlt, w2, _, h2, g2.trans e2 (Nat.le_refl _), g3.trans e2 (Nat.le_refl _), g4⟩
    by_cases hlt : i < ds.length
    · refine .inr ⟨hJ.go i w' s' σ' H' hS' (e1'.mono (Nat.zero_le _)) hlt, fun σ2 H2 => ds.length - (i + 1) = ds.length - (i + 1) ∧ i + 1 ≤ ds.length ∧ ∃ w' s', StR K mg w' s' σ2 H2 ∧ Ext s0.np w0 s0 H w' s' H2 ∧ Ext s0.np w1 s1 H1 w' s' H2 ∧ PostS K mg W s0.np w0 s0 H (loopS g dr body cs (ds.drop (i + 1)) s') B, fun σ2 H2 hN => ⟨_, by omega, hN⟩, fun x Hx hy => ?_⟩
      obtain ⟨d, ed, hSx, ex, dx⟩ := hJ.yld i w' s' σ' H' x Hx hS' (e1'.mono (Nat.zero_le _)) hlt hy
      have edr : ds.drop i = d :: ds.drop (i + 1) := by
        obtain ⟨q1, q2⟩ := List.getElem?_eq_some_iff.mp ed
        rw [List.drop_eq_getElem_cons q1, q2]
      rw [edr] at hp
      unfold loopS at hp
      cases es : setT g d s' with
      | none => rw [es] at hp; exact hp.elim
      | some s3 =>
        rw [es] at hp
        dsimp only at hp
        have le' : s0.np ≤ s'.ce.length := e0'.ln
        refine setT_ok hSx dx es hSx.np_le fun σ3 hS3 l3 ⟨c1, c2, c3⟩ => ?_
        have ext3 : Ext s0.np w' s' Hx w' s3 Hx := ext_same c3 c1 c2 le'
        have ex3 := (ex.mono le').trans ext3 (Nat.le_refl _)
        have E0 := e0'.trans ex3 (Nat.le_refl _)
        have E1 := e1'.trans ex3 (Nat.le_refl _)
        refine ⟨w', s3, hS3, ?_⟩
        have n3 : s0.np ≤ s3.np := by rw [E0.nq]; exact Nat.le_refl _
        cases eb : body s3 with
        | bad => rw [eb] at hp; exact hp.elim
        | exc x2 s4 =>
          rw [eb] at hp
          dsimp only at hp
          intro w4 σ4 H4 cls dd g1 g2 gx
          exact hp w4 σ4 H4 cls dd g1 (E0.trans g2 n3) gx
        | ok a s4 =>
          rw [eb] at hp
          cases a with
          | nx => exact fun w4 σ4 H4 g1 g2 => again hlt g1 (E0.trans g2 n3) (E1.trans g2 n3) hp
          | ct => exact fun w4 σ4 H4 g1 g2 => again hlt g1 (E0.trans g2 n3) (E1.trans g2 n3) hp
          | bk =>
            intro w4 σ4 H4 g1 g2
            obtain ⟨c1, c2⟩ := clean_ok g1 dr
            have n4 : s4.np = s0.np := (E0.trans g2 n3).nq
            rw [n4] at c2
            obtain ⟨u1, u2⟩ := loop_end L c1 ((E0.trans g2 n3).trans c2 (Nat.le_refl _)) (((E1.trans g2 n3).trans c2 (Nat.le_refl _)).mono (Nat.zero_le _))
            exact hp w4 σ4 H4 u1.tr (u2.trans (Ext.tr u1) (by rw [u2.nq]; exact Nat.le_refl _))
          | rt r => exact fun w4 σ4 H4 v g1 g2 hv => hp w4 σ4 H4 v g1 (E0.trans g2 n3) hv
    · have ei : i = ds.length := by omega
      subst ei
      refine .inl ⟨hJ.stop _ w' s' σ' H' hS' (e1'.mono (Nat.zero_le _)) (Nat.le_refl _), ?_⟩
      rw [List.drop_length] at hp
      unfold loopS at hp
      obtain ⟨u1, u2⟩ := loop_end L hS' e0' (e1'.mono (Nat.zero_le _))
      exact hp w' σ' H' u1.tr (u2.trans (Ext.tr u1) (by rw [u2.nq]; exact Nat.le_refl _))
theorem ss_for {iter tg : Expr} {body : List Stmt} {it : IS} {g : Tg} {dr : List Nat} {fb : SS} {pos : Pos} (hp : PassesOwn (model X.prog X.w) X.A X.env X.xe) (hc : X.calm = true) (hi : SI X W tg iter it) (hg : PG X tg (gT X.K g)) (hb : SB X W body fb)
    (hs : ∀ x, foldedSetIterable iter X.env x = pure x := by intro _; rfl) : SSt X W (.For tg iter body [] pos) (forS it g dr fb) := ps_imp (ps_for hp hc hi hg hb hs) fun _ _ _ h => for_at h

/-! ### while -/
def whileN (c : TS') (dr : List Nat) (body : SS) : Nat → SS
  | 0, _ => .bad
  | n + 1, s => (c s).bind fun b s1 => if b = true then (match body s1.tr with
      | .ok .nx s2 => whileN c dr body n (s2.clean dr)
      | .ok .ct s2 => whileN c dr body n (s2.clean dr)
      | .ok .bk s2 => doneS (s2.clean dr)
      | .ok (.rt r) s2 => .ok (.rt r) s2
      | .exc x s2 => .exc x s2
      | .bad => .bad)
    else doneS (s1.clean dr)
open Classical in
noncomputable def whileS (c : TS') (dr : List Nat) (body : SS) : SS := fun s => if h : ∃ n, whileN c dr body n s ≠ .bad then whileN c dr body h.choose s else .bad
end
end E
/-! E11: list comprehensions of one and of two sources. -/
namespace E
open PySem PySem.Spec PyProof.Rows L2

def W0 : WX := fun _ _ _ _ => False
def wipeS (vs : List Nat) (sl : List (Option R)) : List (Option R) := vs.foldr (fun v l => l.set v none) sl
def S.back (s : S) (sl : List (Option R)) (m : Nat) : S := { s with sl := sl, ce := s.ce.take m }
/-- an item more in cell n -/
def addC (n : Nat) (r : R) (s : S) : Option S := match s.frz r with
  | some (d, s1) => match s1.cellAt n with
    | .lv acc => if acc.length < sizeLine then some (s1.put n (.lv (acc ++ [d]))) else none
    | _ => none
  | none => none
def addE (fe : ES) (n : Nat) (s : S) : Option S := match fe s with
  | .ok r s1 => addC n r s1
  | _ => none
def compL (g : Tg) (ft : TS') (bd : S → Option S) (sl : List (Option R)) (m : Nat) : List D → S → Option S
  | [], s => some s
  | d :: ds, s => match setT g d s with
    | none => none
    | some s1 => match ft s1 with
      | .ok b s2 => if b = true then (match bd s2 with
          | some s3 => compL g ft bd sl m ds (s3.back sl m)
          | none => none) else compL g ft bd sl m ds (s2.back sl m)
      | _ => none
/-- the inner loop of a comprehension of two sources -/
def innerL (it : IS) (g : Tg) (vs : List Nat) (ft : TS') (bd : S → Option S) (s : S) : Option S := match it s with
  | .ok q s1 => match compL g ft bd (wipeS vs s1.sl) s1.ce.length q.1 { s1 with sl := wipeS vs s1.sl } with
    | some s2 => some (s2.unl q.2)
    | none => none
  | _ => none
/-- the list's cell is the next; bd adds to it -/
def compG (it : IS) (g : Tg) (vs : List Nat) (ft : TS') (bd : Nat → S → Option S) : ES := fun s => (it s).bind fun q s1 =>
  match compL g ft (bd s1.ce.length) (wipeS vs s1.sl) (s1.ce.length + 1) q.1 { s1.push (.lv []) with sl := wipeS vs s1.sl } with
  | some s2 => .ok (.own s1.ce.length) ((s2.back s1.sl (s1.ce.length + 1)).unl q.2)
  | none => .bad
def compS (it : IS) (g : Tg) (vs : List Nat) (ft : TS') (fe : ES) : ES := compG it g vs ft (addE fe)
def comp2S (it : IS) (g : Tg) (vs : List Nat) (ft : TS') (it1 : IS) (g1 : Tg) (vs1 : List Nat) (ft1 : TS') (fe : ES) : ES := compG it g vs ft fun n => innerL it1 g1 vs1 ft1 (addE fe n)
def yesT : TS' := fun s => .ok true s
section
variable {K : PySem.W.Frag} {mg : Str → Option Value} {W : WX} {w w' w₂ w0 w1 : Wd} {s s' s₂ s0 s1 : S} {H H' H₂ H0 H1 : Hp} {σ σ' σ0 : St} {p q m n : Nat}
theorem wipeS_len : ∀ {vs : List Nat} {sl : List (Option R)}, (wipeS vs sl).length = sl.length
  | [], _ => rfl
  | v :: vs, sl => by show ((wipeS vs sl).set v none).length = _; rw [List.length_set, wipeS_len]
theorem wipeS_get : ∀ {vs : List Nat} {sl : List (Option R)} {i : Nat} {r : R}, (wipeS vs sl)[i]? = some (some r) → i ∉ vs ∧ sl[i]? = some (some r)
  | [], _, _, _, h => ⟨by simp, h⟩
  | v :: vs, sl, i, r, h => by
    have h : ((wipeS vs sl).set v none)[i]? = some (some r) := h
    by_cases hv : v = i
    · subst hv
      by_cases hl : v < (wipeS vs sl).length
      · rw [List.getElem?_set_self hl] at h; cases h
      · rw [List.getElem?_eq_none (by simpa using hl)] at h; cases h
    · rw [List.getElem?_set_ne hv] at h
      obtain ⟨a, b⟩ := wipeS_get h
      exact ⟨by simp [a, Ne.symm hv], b⟩
/-- the block's own names forgotten -/
theorem StR.wiped (h : StR K mg w s σ H) (vs : List Nat) : StR K mg w { s with sl := wipeS vs s.sl } (wipe σ vs) H where
  cl := h.cl
  inj := h.inj
  sl := fun i r e => by
    obtain ⟨a, b⟩ := wipeS_get (show (wipeS vs s.sl)[i]? = some (some r) from e)
    obtain ⟨v, e1, e2⟩ := h.sl i r b
    refine ⟨v, ?_, e2⟩
    rw [wipe_get, if_neg (fun z => a z.1)]
    exact e1
  sn := by
    show (wipeS vs s.sl).length ≤ _
    rw [wipeS_len, wipe_length]
    exact h.sn
  zt := h.zt
  sb := fun i c e => by
    show c < s.np + (wipeS vs s.sl).length
    rw [wipeS_len]
    exact h.sb i c (wipeS_get (show (wipeS vs s.sl)[i]? = some (some (.own c)) from e)).2
  bs := by
    show s.np + (wipeS vs s.sl).length ≤ _
    rw [wipeS_len]
    exact h.bs
  lb := fun i ds e => by
    show i < s.np + (wipeS vs s.sl).length
    rw [wipeS_len]
    exact h.lb i ds e
  sm := h.sm
  tt := fun i d e => let T := h.tt i d e; ⟨T.ow, T.nd, T.nz, T.no, T.nt⟩
theorem back_get {sl : List (Option R)} {i : Nat} {c : Cell} (e : (s.back sl m).ce[i]? = some c) : i < m ∧ s.ce[i]? = some c := by
  have e : (s.ce.take m)[i]? = some c := e
  rw [List.getElem?_take] at e
  split at e
  · rename_i h; exact ⟨h, e⟩
  · cases e
/-- back at the loop's head: the slots as they were at (w0, s0) -/
theorem back_ok (h0 : StR K mg w0 s0 σ0 H0) (h : StR K mg w s σ H) (e : Ext m w0 s0 H0 w s H) (hm : s0.ce.length = m) : StR K mg w (s.back s0.sl m) σ0 H ∧ Ext m w0 s0 H0 w (s.back s0.sl m) H := by
  have lt : m ≤ s.ce.length := e.ln
  have ln : (s.back s0.sl m).ce.length = m := by show (s.ce.take m).length = m; rw [List.length_take]; omega
  have bs0 := h0.bs
  have hb : s.np + s0.sl.length ≤ m := by rw [e.nq]; omega
  refine ⟨⟨fun i c q => h.cl i c (back_get q).2, fun i j x y q1 q2 => h.inj i j x y (back_get q1).2 (back_get q2).2, fun i r q => ?_, h0.sn, h.zt, fun i c q => ?_, by rw [ln]; exact hb, fun i ds q => ?_, h.sm,
    h.tr_keep (s' := s.back s0.sl m) .refl (fun i d e => ⟨(back_get e).2, rfl, rfl⟩) (fun b _ o q => q) (fun _ _ z => z) fun b _ j x e o q => ⟨j, x, (back_get e).2, o, q⟩⟩,
    ⟨e.z, e.zn, e.k, fun a => lz2 (fun i ds q c ea => e.lz a (.inl ⟨i, ds, (back_get q).2, c, ea⟩)) (fun ⟨i, d, q, m⟩ => e.lz a (.inr ⟨i, d, (back_get q).2, m⟩)), e.pr, by rw [ln]; exact Nat.le_refl _, fun i ds q => ?_, e.nq, rfl⟩⟩
  · obtain ⟨v, e1, e2⟩ := h0.sl i r q
    refine ⟨v, e1, ?_⟩
    cases r with
    | sh d => exact Den.stay (h0.stay e) e2
    | ex _ => exact ExV.stay (h0.stay e) e2
    | own c =>
      have hc : c < m := by rw [← hm]; exact e2.2
      exact ⟨by rw [e.pr c hc]; exact e2.1, by rw [ln]; exact hc⟩
  · show c < s.np + s0.sl.length
    rw [e.nq]
    exact h0.sb i c q
  · show i < s.np + s0.sl.length
    rw [← e.sq]
    exact h.lb i ds (back_get q).2
  · obtain ⟨q1, q2⟩ := e.lk i ds q
    refine ⟨?_, q2⟩
    have hi : i < m := by rw [← hm]; exact (List.getElem?_eq_some_iff.mp q).1
    show (s.ce.take m)[i]? = _
    rw [List.getElem?_take, if_pos hi]
    exact q1
theorem addC_ok (hS : StR K mg w s σ H) {r : R} {v : V} (hr : RR K mg w s.ce.length H v r) (h : addC n r s = some s') (hn : n < s.ce.length) :
    ∃ acc, H (w.ρ n) = some (.lst acc) ∧ acc.length < sizeLine ∧ ∃ w', StR K mg w' s' σ (upd H (w.ρ n) (.lst (acc ++ [v]))) ∧ Ext s.ce.length w s H w' s' (upd H (w.ρ n) (.lst (acc ++ [v]))) := by
  unfold addC at h
  split at h
  · rename_i d s1 ef
    obtain ⟨w1, hS1, x1, d1, l1⟩ := frz_ok hS ef hr
    split at h
    · rename_i ds ec
      split at h
      · rename_i hz
        cases h
        have hc := cellAt_lv ec
        obtain ⟨_, ys, hH, hd⟩ := hS1.cl n _ hc
        have en : w1.ρ n = w.ρ n := x1.pr n hn
        rw [en] at hH
        obtain ⟨g1, g2⟩ := hS1.write hc (hd.append (.cons d1 .nil))
        rw [en] at g1 g2
        exact ⟨ys, hH, by rw [hd.length]; exact hz, w1, g1, x1.trans g2 (by omega)⟩
      · cases h
    · cases h
  · cases h
/-- the turns of a comprehension's loop -/
theorem compL_at {J : It} {ds : List D} {g : Tg} {ft : TS'} {bd : S → Option S} {vs : List Nat} {w1 w2 : Wd} {s1 s2 sf : S} {H1 H2 : Hp} {σw : St} {T : St → Hp → (Hp → Prop) → Prop} {Fin : Hp → Prop}
    (hJ : ItOk K mg J ds w1 s1 H1) (e12 : Ext 0 w1 s1 H1 w2 s2 H2) (h2 : StR K mg w2 s2 (wipe σw vs) H2) (hm : s2.ce.length = m) (hgs : ∀ i ∈ g.slots, i ∈ vs)
    (hbd : ∀ (w : Wd) (s s' : S) (σ2 : St) (H : Hp) (Nx : Hp → Prop), StR K mg w s σ2 H → Ext m w2 s2 H2 w s H → bd s = some s' → (∀ w' H', StR K mg w' s' σ2 H' → Ext m w s H w' s' H' → Nx H') → T σ2 H Nx)
    (hF : ∀ w' H', StR K mg w' sf (wipe σw vs) H' → Ext m w2 s2 H2 w' sf H' → Fin H') (h : compL g ft bd s2.sl m ds s2 = some sf) :
    ∃ Wq : Nat → Nat → Hp → Prop, (∃ k, Wq 0 k H2) ∧ ∀ i k H, Wq i k H → (J.stop i H ∧ Fin H) ∨ (J.go i H ∧ ∃ Nx : Hp → Prop, (∀ H', Nx H' → ∃ k', k' < k ∧ Wq (i + 1) k' H') ∧
      ∀ x H', J.yld i H x H' → gT K g x (wipe σw vs) H' fun σ2 H2 => wipe σ2 vs = wipe σw vs ∧ tT K mg W0 ft σ2 H2 fun b H3 => if b = true then T σ2 H3 Nx else Nx H3) := by
  refine ⟨fun i k H => k = ds.length - i ∧ i ≤ ds.length ∧ ∃ w s, StR K mg w s (wipe σw vs) H ∧ Ext m w2 s2 H2 w s H ∧ compL g ft bd s2.sl m (ds.drop i) s = some sf, ⟨ds.length, by simp, Nat.zero_le _, w2, s2, h2, Ext.refl (Nat.le_of_eq hm.symm), h⟩, ?_⟩
  rintro i k H ⟨rfl, hi, w, s, hS, e, hc⟩
  have e1 : Ext 0 w1 s1 H1 w s H := e12.trans (e.mono (Nat.zero_le _)) (Nat.le_refl _)
  by_cases hlt : i < ds.length
  · refine .inr ⟨hJ.go i w s _ H hS e1 hlt, fun H' => ∃ w s, StR K mg w s (wipe σw vs) H' ∧ Ext m w2 s2 H2 w s H' ∧ compL g ft bd s2.sl m (ds.drop (i + 1)) s = some sf, fun H' hN => ⟨_, by omega, rfl, hlt, hN⟩, fun x Hx hy => ?_⟩
    obtain ⟨d, ed, hSx, ex, dx⟩ := hJ.yld i w s _ H x Hx hS e1 hlt hy
    have edr : ds.drop i = d :: ds.drop (i + 1) := by
      obtain ⟨q1, q2⟩ := List.getElem?_eq_some_iff.mp ed
      rw [List.drop_eq_getElem_cons q1, q2]
    rw [edr] at hc
    unfold compL at hc
    have le : m ≤ s.ce.length := e.ln
    cases es : setT g d s with
    | none => rw [es] at hc; cases hc
    | some s3 =>
      rw [es] at hc
      dsimp only at hc
      refine setT_ok hSx dx es hSx.np_le fun σ3 hS3 l3 ⟨c1, c2, c3⟩ => ?_
      have E3 : Ext m w2 s2 H2 w s3 Hx := (e.trans (ex.mono le) (Nat.le_refl _)).trans (ext_same c3 c1 c2 le) (Nat.le_refl _)
      have wz : wipe σ3 vs = wipe σw vs := by
        rw [wipe_eq l3.1 fun j hj => l3.2 j fun z => hj (hgs j z)]
        refine wipe_eq (by rw [wipe_length]) fun j hj => ?_
        rw [wipe_get, if_neg (fun z => hj z.1)]
      refine ⟨wz, w, s3, hS3, ?_⟩
      have fin : ∀ {w4 : Wd} {s4 : S} {H4 : Hp}, StR K mg w4 s4 σ3 H4 → Ext m w2 s2 H2 w4 s4 H4 → compL g ft bd s2.sl m (ds.drop (i + 1)) (s4.back s2.sl m) = some sf → ∃ w s, StR K mg w s (wipe σw vs) H4 ∧ Ext m w2 s2 H2 w s H4 ∧ compL g ft bd s2.sl m (ds.drop (i + 1)) s = some sf := fun {w4 s4 H4} a b c => by
        obtain ⟨q1, q2⟩ := back_ok h2 a b hm
        exact ⟨w4, _, q1, q2, c⟩
      cases et : ft s3 with
      | bad => rw [et] at hc; cases hc
      | exc x s4 => rw [et] at hc; cases hc
      | ok b s4 =>
        rw [et] at hc
        dsimp only at hc
        intro w4 H4 hS4 e4
        have E4 : Ext m w2 s2 H2 w4 s4 H4 := E3.trans (e4.mono (by rw [c1]; exact le)) (Nat.le_refl _)
        cases b with
        | false =>
          rw [if_neg Bool.false_ne_true] at hc
          dsimp only
          rw [if_neg Bool.false_ne_true]
          exact fin hS4 E4 hc
        | true =>
          rw [if_pos rfl] at hc
          dsimp only
          rw [if_pos rfl]
          cases eb : bd s4 with
          | none => rw [eb] at hc; cases hc
          | some s5 =>
            rw [eb] at hc
            exact hbd w4 s4 s5 σ3 H4 _ hS4 E4 eb fun w5 H5 hS5 e5 => fin hS5 (E4.trans e5 (Nat.le_refl _)) hc
  · have ei : i = ds.length := by omega
    subst ei
    rw [List.drop_length] at hc
    unfold compL at hc
    cases hc
    exact .inl ⟨hJ.stop _ w _ _ H hS e1 (Nat.le_refl _), hF w H hS e⟩
/-- an item of the list at D -/
theorem addE_at {fe : ES} {D : Addr} {Nx : Hp → Prop} (hS : StR K mg w s σ H) (h : addE fe n s = some s') (hn : n < m) (hm : m ≤ s.ce.length) (hD : w.ρ n = D) (k : ∀ w' H', StR K mg w' s' σ H' → Ext m w s H w' s' H' → Nx H') :
    tE K mg W0 fe σ H fun y H4 => ∃ acc, H4 D = some (.lst acc) ∧ acc.length < sizeLine ∧ Nx (upd H4 D (.lst (acc ++ [y]))) := by
  unfold addE at h
  refine ⟨w, s, hS, ?_⟩
  cases ef : fe s with
  | bad => rw [ef] at h; cases h
  | exc x s1 => rw [ef] at h; cases h
  | ok r s1 =>
    rw [ef] at h
    intro w1 H1 hS1 e1 v hv
    obtain ⟨acc, a1, a2, w2, g1, g2⟩ := addC_ok hS1 hv h (by have := e1.ln; omega)
    have eD : w1.ρ n = D := (e1.pr n (by omega)).trans hD
    rw [eD] at a1 g1 g2
    exact ⟨acc, a1, a2, k w2 _ g1 ((e1.mono hm).trans (g2.mono (Nat.le_trans hm e1.ln)) (Nat.le_refl _))⟩
/-- the heads of both forms -/
theorem compG_at {it : IS} {g : Tg} {ft : TS'} {bd : Nat → S → Option S} {vs : List Nat} {Q : VK} {T : Addr → St → Hp → (Hp → Prop) → Prop} (hgs : ∀ i ∈ g.slots, i ∈ vs)
    (hbd : ∀ (D : Addr) (n m : Nat) (w : Wd) (s s' : S) (σ2 : St) (H : Hp) (Nx : Hp → Prop), StR K mg w s σ2 H → n < m → m ≤ s.ce.length → w.ρ n = D → bd n s = some s' → (∀ w' H', StR K mg w' s' σ2 H' → Ext m w s H w' s' H' → Nx H') → T D σ2 H Nx)
    (h : tE K mg W (compG it g vs ft bd) σ H Q) : tI K mg W it σ H fun J H1 => ∀ D, H1 D = none → ∃ Wq : Nat → Nat → Hp → Prop, (∃ m, Wq 0 m (upd H1 D (.lst []))) ∧ ∀ i m H, Wq i m H →
      (J.stop i H ∧ Q (.ref D) H) ∨ (J.go i H ∧ ∃ Nx : Hp → Prop, (∀ H', Nx H' → ∃ m', m' < m ∧ Wq (i + 1) m' H') ∧ ∀ x H', J.yld i H x H' → gT K g x (wipe σ vs) H' fun σ2 H2 => wipe σ2 vs = wipe σ vs ∧ tT K mg W0 ft σ2 H2 fun b H3 =>
        if b = true then T D σ2 H3 Nx else Nx H3) := by
  obtain ⟨w, s, hS, h⟩ := h
  unfold compG at h
  refine ⟨w, s, hS, ?_⟩
  cases ei : it s with
  | bad => rw [ei] at h; exact h.elim
  | exc x s1 => rw [ei] at h; exact h
  | ok q s1 =>
    obtain ⟨ds, cs⟩ := q
    rw [ei] at h
    intro w1 H1 hS1 e1 L J hJ D hD
    have L : Locked w s w1 s1 cs := L
    have hJ : ItOk K mg J ds w1 s1 H1 := hJ
    obtain ⟨g1, g2, _⟩ := hS1.new (ds := []) hD .nil
    have ln : (s1.push (.lv [])).ce.length = s1.ce.length + 1 := push_len
    have h : Post K mg W σ s.ce.length w s H (match compL g ft (bd s1.ce.length) (wipeS vs s1.sl) (s1.ce.length + 1) ds { s1.push (.lv []) with sl := wipeS vs s1.sl } with
      | some s2 => .ok (.own s1.ce.length) ((s2.back s1.sl (s1.ce.length + 1)).unl cs)
      | none => .bad) (QV K mg Q) := h
    cases ec : compL g ft (bd s1.ce.length) (wipeS vs s1.sl) (s1.ce.length + 1) ds { s1.push (.lv []) with sl := wipeS vs s1.sl } with
    | none => rw [ec] at h; exact h.elim
    | some sf =>
      rw [ec] at h
      have hsl : Ext s1.ce.length w1 s1 H1 (w1.at s1.ce.length D) { s1.push (.lv []) with sl := wipeS vs s1.sl } (upd H1 D (.lst [])) :=
        g2.trans (ext_same (by show (wipeS vs s1.sl).length = s1.sl.length; exact wipeS_len) rfl rfl (by rw [ln]; omega)) (Nat.le_refl _)
      refine compL_at (T := T D) (Fin := fun H => Q (.ref D) H) (m := s1.ce.length + 1) hJ (hsl.mono (Nat.zero_le _)) (g1.wiped vs) ln hgs (fun w' s' s'' σ2 H' Nx a b c k => ?_) (fun w' H' a b => ?_) ec
      · have pr : w'.ρ s1.ce.length = D := by rw [b.pr _ (Nat.lt_succ_self _)]; exact if_pos rfl
        exact hbd D s1.ce.length (s1.ce.length + 1) w' s' s'' σ2 H' Nx a (Nat.lt_succ_self _) b.ln pr c k
      · -- the end
        have b2 : Ext (s1.ce.length + 1) (w1.at s1.ce.length D) (s1.push (.lv [])) (upd H1 D (.lst [])) w' sf H' :=
          (ext_same (by show (wipeS vs s1.sl).length = s1.sl.length; exact wipeS_len) rfl rfl (by rw [ln]; exact Nat.le_refl _) : Ext _ _ (s1.push (.lv [])) _ _ { s1.push (.lv []) with sl := wipeS vs s1.sl } _).trans b (Nat.le_refl _)
        obtain ⟨q1, q2⟩ := back_ok g1 a b2 ln
        have pr : w'.ρ s1.ce.length = D := by rw [b2.pr _ (Nat.lt_succ_self _)]; exact if_pos rfl
        have E1 := g2.trans (q2.mono (Nat.le_succ _)) (Nat.le_refl _)
        have E0 := e1.trans E1 e1.ln
        obtain ⟨u1, u2⟩ := loop_end L q1 E0 (E1.mono (Nat.zero_le _))
        refine h w' H' u1 u2 _ ⟨by rw [pr], ?_⟩
        rw [unl_len]
        have : s1.ce.length + 1 ≤ (sf.back s1.sl (s1.ce.length + 1)).ce.length := q2.ln
        omega
theorem comp_at {it : IS} {g : Tg} {ft : TS'} {fe : ES} {vs : List Nat} {Q : VK} (hgs : ∀ i ∈ g.slots, i ∈ vs) (h : tE K mg W (compS it g vs ft fe) σ H Q) : tLc (tI K mg W it) (gT K g) (tT K mg W0 ft) (tE K mg W0 fe) vs σ H Q :=
  compG_at (T := fun D σ2 H3 Nx => tE K mg W0 fe σ2 H3 fun y H4 => ∃ acc, H4 D = some (.lst acc) ∧ acc.length < sizeLine ∧ Nx (upd H4 D (.lst (acc ++ [y])))) hgs
    (fun D n m w s s' σ2 H Nx a b c d e k => addE_at a e b c d k) h
end
/-! ### the rules -/
section
variable {X : Cx} {W : WX} {elt tg iter tg1 iter1 : Expr} {ifs ifs1 : List Expr} {scope : Scope} {own : List (Str × Nat)} {vs vs1 : List Nat} {pos spos py : Pos} {it it1 : IS} {g gg : Tg} {ft ft1 : TS'} {fe : ES} {i : Nat} {y : Str}
/-- what holds of every context of the block -/
def Blk (X : Cx) (scope : Scope) (J : Cx → Prop) : Prop := ∀ (s : Shared) (H : Hp) (C : Addr) (cl : List (Str × Addr)) (fp : List Addr), J (X.blk s H scope (compEnvC scope cl C X.env) fp)
def STs (X : Cx) (ifs : List Expr) (f : TS') : Prop := PTs X ifs (tT X.K X.mg W0 f)
theorem sts_nil : STs X [] yesT := ⟨fun pins s σ H Q I ⟨w, s', hS, h⟩ => (pts_nil (X := X)).run pins s σ H Q I (h w H hS (Ext.refl (Nat.le_refl _)))⟩
theorem se_comp (hc : X.calm = true) (hN : X.N.Nodup) (hi : SI X W tg iter it) (ok : BlkOk X.N X.env.scope scope own) (hv : vs = own.map (·.2)) (hgs : ∀ i ∈ g.slots, i ∈ vs) (hg : Blk X scope fun Y => PG Y tg (gT X.K g))
    (ht : Blk X scope fun Y => STs Y ifs ft) (he : Blk X scope fun Y => SE Y W0 elt fe) (hs : ∀ x, foldedSetIterable iter X.env x = pure x := by intro _; rfl) : SE X W (.ListComp elt [⟨tg, iter, ifs, 0⟩] scope pos) (compS it g vs ft fe) := by
  subst hv
  exact pe_imp (pe_lc (tt := tT X.K X.mg W0 ft) (te := tE X.K X.mg W0 fe) hc hN hi ok hg ht he hs) fun σ H Q h => comp_at hgs h
end
end E
/-! E12: calls of the text's own defs, on data. -/
namespace E
open PySem PySem.Spec PyProof.Rows L2

/-- how an argument goes over: as data; as a list that the callee may change; as a list that is lent (to be read alone) -/
inductive Pa where
  | sh (d : D)
  | io (c : Nat) (x : Cell)
  | lent (c : Nat) (ds : List D)
  | ex (x : Ex)
def Pa.r : Pa → Nat → R
  | .sh d, _ => .sh d
  | .io _ _, i => .own i
  | .lent _ ds, _ => .sh (.list ds)
  | .ex x, _ => .ex x
def Pa.cell : Pa → Cell
  | .io _ x => x
  | _ => .dead
def Pa.ioc : Pa → Option Nat
  | .io c _ => some c
  | _ => none
def Pa.lc : Pa → Option Nat
  | .lent c _ => some c
  | _ => none
def pass1 (s : S) (b : Bool) : R → Option Pa
  | .sh d => some (.sh d)
  | .own c => match s.cellAt c with
    | .fz ds => some (.sh (.list ds))
    | .lv ds => some (if b = true then .io c (.lv ds) else .lent c ds)
    | .lk ds => some (if b = true then .io c (.lk ds) else .lent c ds)
    | .dv ds => some (.io c (.dv ds))
    | .dead => none
    | .tr _ => none
  | .ex x => some (.ex x)
def passL (s : S) : List Bool → List R → Option (List Pa)
  | [], [] => some []
  | b :: bs, r :: rs => match pass1 s b r with
    | some p => (passL s bs rs).map (p :: ·)
    | none => none
  | _, _ => none
def psOf (L : List Pa) : List R := L.mapIdx fun i p => p.r i
def ioOf (L : List Pa) : List Cell := L.map Pa.cell
def apart (L : List Pa) : Bool := decide (L.filterMap Pa.ioc).Nodup && (L.filterMap Pa.lc).all fun c => decide (c ∉ L.filterMap Pa.ioc)
def ent (n : Nat) (ps : List R) (io : List Cell) : S := ⟨ps.map some ++ List.replicate (n - ps.length) none, io ++ List.replicate n .dead, io.length⟩
mutual
def atomD : D → Bool
  | .none => true
  | .bool _ => true
  | .int _ => true
  | .str _ => true
  | .tuple ds => atomDs ds
  | _ => false
def atomDs : List D → Bool
  | [] => true
  | d :: ds => atomD d && atomDs ds
end
def Cell.list : Cell → List D
  | .lv ds => ds
  | .lk ds => ds
  | .fz ds => ds
  | .dv ds => ds.map (·.2)
  | .dead => []
  | .tr _ => []
def norm : Cell → Cell → Cell
  | .lv _, .lk ds => .lv ds
  | .dv _, .lk ds => .lv ds
  | _, x => x
/-- the callee's ends of the lists that it was given -/
def wb : List Pa → Nat → S → S → S
  | [], _, _, s => s
  | .io c x :: L, i, s', s => wb L (i + 1) s' (s.put c (norm x (s'.cellAt i)))
  | _ :: L, i, s', s => wb L (i + 1) s' s
def ioFine (lent : Bool) : List Pa → Nat → S → Bool
  | [], _, _ => true
  | .io _ _ :: L, i, s' => (match s'.cellAt i with
    | .dead => false
    | .lv ds => !lent || atomDs ds
    | .lk ds => !lent || atomDs ds
    | .fz ds => !lent || atomDs ds
    | .tr _ => false
    | .dv ds => !lent || atomDs (ds.map (·.2))) && ioFine lent L (i + 1) s'
  | _ :: L, i, s' => ioFine lent L (i + 1) s'
def lentIn (L : List Pa) : Bool := L.any fun p => p.lc.isSome
def retR (L : List Pa) (r : R) (s' s : S) : Res R :=
  if ioFine (lentIn L) L 0 s' = true then (match r with
    | .sh d => if (!lentIn L || atomD d) = true then .ok (.sh d) (wb L 0 s' s) else .bad
    | .own c => if c < L.length then (match L[c]? with
        | some (.io c' _) => .ok (.own c') (wb L 0 s' s)
        | _ => .bad) else (match s'.cellAt c with
        | .lv ds => if (!lentIn L || atomDs ds) = true then .ok (.own s.ce.length) ((wb L 0 s' s).push (.lv ds)) else .bad
        | .fz ds => if lentIn L = true then .bad else .ok (.sh (.list ds)) (wb L 0 s' s)
        | .dv ds => if (!lentIn L || atomDs (ds.map (·.2))) = true then .ok (.own s.ce.length) ((wb L 0 s' s).push (.dv ds)) else .bad
        | .tr d => .ok (.own s.ce.length) ((wb L 0 s' s).push (.tr d))
        | _ => .bad)
    | .ex _ => .bad)
  else .bad
/-- a def: what it makes of its arguments -/
abbrev FT := List R → List Cell → Res R
def runF (n : Nat) (fb : SS) : FT := fun ps io => match fb (ent n ps io) with
  | .ok (.rt r) s => .ok r s
  | .ok .nx s => .ok (.sh .none) s
  | .exc x s => .exc x s
  | _ => .bad
def callD (md : List Bool) (F : FT) : List R → S → Res R := fun rs s => match passL s md rs with
  | some L => if apart L = true then (match F (psOf L) (ioOf L) with
    | .ok r s' => retR L r s' s
    | _ => .bad) else .bad
  | none => .bad
def startN (n : Nat) (vs : List V) : St := vs.map some ++ List.replicate (n - vs.length) none
section
variable {K : PySem.W.Frag} {mg : Str → Option Value} {W : WX} {w w' w₂ w0 w1 : Wd} {s s' s₂ s0 s1 : S} {H H' H₂ H0 H1 : Hp} {σ σ' σ0 : St} {p q m n : Nat} {L : List Pa} {Z Z' : Addr → Prop}
/-- the addresses that are lent -/
def LentA (w : Wd) (L : List Pa) (a : Addr) : Prop := ∃ (j c : Nat) (ds : List D), L[j]? = some (.lent c ds) ∧ a = w.ρ c
def Wd.go (w : Wd) (L : List Pa) : Wd := ⟨fun a => w.Z a ∨ LentA w L a, fun i => match L[i]? with
  | some (.io c _) => w.ρ c
  | _ => w.ρ i, fun _ => []⟩
theorem go_io {i c : Nat} {x : Cell} (h : L[i]? = some (.io c x)) : (w.go L).ρ i = w.ρ c := by
  unfold Wd.go
  dsimp only
  rw [h]
/-- what an entry of L says of the caller's state -/
def PaOk (K : PySem.W.Frag) (mg : Str → Option Value) (w : Wd) (s : S) (H : Hp) (v : V) : Pa → Prop
  | .sh d => Den K w.Z H v d
  | .io c x => v = .ref (w.ρ c) ∧ s.ce[c]? = some x ∧ x.open?.isSome = true
  | .lent c ds => v = .ref (w.ρ c) ∧ (s.ce[c]? = some (.lv ds) ∨ s.ce[c]? = some (.lk ds))
  | .ex x => ExV K mg w.Z H v x
theorem pass1_ok (hS : StR K mg w s σ H) {b : Bool} {r : R} {v : V} {pa : Pa} (hr : RR K mg w s.ce.length H v r) (h : pass1 s b r = some pa) : PaOk K mg w s H v pa := by
  cases r with
  | sh d =>
    cases h
    exact hr
  | ex x =>
    cases h
    exact hr
  | own c =>
    obtain ⟨rfl, hc⟩ := hr
    unfold pass1 at h
    cases ec : s.cellAt c with
    | dead => simp only [ec] at h; cases h
    | fz ds =>
      simp only [ec] at h
      cases h
      obtain ⟨z, xs, q, d⟩ := hS.cl c _ (S.cellAt_some ec (by simp))
      exact .lst (.inl ⟨z, q⟩) d
    | lv ds =>
      simp only [ec] at h
      cases h
      split
      · exact ⟨rfl, S.cellAt_some ec (by simp), rfl⟩
      · exact ⟨rfl, .inl (S.cellAt_some ec (by simp))⟩
    | lk ds =>
      simp only [ec] at h
      cases h
      split
      · exact ⟨rfl, S.cellAt_some ec (by simp), rfl⟩
      · exact ⟨rfl, .inr (S.cellAt_some ec (by simp))⟩
    | dv ds =>
      simp only [ec] at h
      cases h
      exact ⟨rfl, S.cellAt_some ec (by simp), rfl⟩
    | tr d => simp only [ec] at h; cases h
theorem passL_ok (hS : StR K mg w s σ H) : ∀ {md : List Bool} {rs : List R} {vs : List V} {L : List Pa}, RRs K mg w s.ce.length H vs rs → passL s md rs = some L → L.length = vs.length ∧ ∀ (i : Nat) (pa : Pa), L[i]? = some pa → ∃ v, vs[i]? = some v ∧ PaOk K mg w s H v pa
  | [], [], _, _, hr, h => by
    cases hr
    cases h
    exact ⟨rfl, fun i pa e => by simp at e⟩
  | b :: bs, r :: rs, _, _, hr, h => by
    cases hr with
    | cons h1 h2 =>
      unfold passL at h
      cases e : pass1 s b r with
      | none => rw [e] at h; cases h
      | some pa =>
        rw [e] at h
        obtain ⟨L', e2, rfl⟩ := Option.map_eq_some_iff.mp h
        obtain ⟨l, q⟩ := passL_ok hS h2 e2
        refine ⟨by simp [l], fun i pa' e' => ?_⟩
        cases i with
        | zero =>
          have : pa = pa' := by simpa using e'
          subst this
          exact ⟨_, rfl, pass1_ok hS h1 e⟩
        | succ i => exact q i pa' (by simpa using e')
  | [], _ :: _, _, _, _, h => by cases h
  | _ :: _, [], _, _, _, h => by cases h
/-- L speaks of the state -/
structure LOk (K : PySem.W.Frag) (mg : Str → Option Value) (w : Wd) (s : S) (H : Hp) (L : List Pa) (vs : List V) : Prop where
  ln : L.length = vs.length
  at_ : ∀ (i : Nat) (pa : Pa), L[i]? = some pa → ∃ v, vs[i]? = some v ∧ PaOk K mg w s H v pa
  one : ∀ (i j c : Nat) (x y : Cell), L[i]? = some (.io c x) → L[j]? = some (.io c y) → i = j
  ap : ∀ (i j c : Nat) (x : Cell) (ds : List D), L[i]? = some (.io c x) → L[j]? = some (.lent c ds) → False
theorem nodup_filterMap {α β : Type} {f : α → Option β} : ∀ {l : List α}, (l.filterMap f).Nodup → ∀ (i j : Nat) (x y : α) (c : β), l[i]? = some x → l[j]? = some y → f x = some c → f y = some c → i = j
  | [], _, i, _, _, _, _, h, _, _, _ => by simp at h
  | a :: l, hn, 0, 0, _, _, _, _, _, _, _ => rfl
  | a :: l, hn, 0, j + 1, x, y, c, h1, h2, h3, h4 => by
    have e : a = x := by simpa using h1
    subst e
    rw [List.filterMap_cons_some h3] at hn
    exact absurd (List.mem_filterMap.mpr ⟨y, List.mem_of_getElem? (show l[j]? = some y by simpa using h2), h4⟩) (List.nodup_cons.mp hn).1
  | a :: l, hn, i + 1, 0, x, y, c, h1, h2, h3, h4 => by
    have e : a = y := by simpa using h2
    subst e
    rw [List.filterMap_cons_some h4] at hn
    exact absurd (List.mem_filterMap.mpr ⟨x, List.mem_of_getElem? (show l[i]? = some x by simpa using h1), h3⟩) (List.nodup_cons.mp hn).1
  | a :: l, hn, i + 1, j + 1, x, y, c, h1, h2, h3, h4 => by
    have : (l.filterMap f).Nodup := by
      cases e : f a with
      | none => rwa [List.filterMap_cons_none e] at hn
      | some b => rw [List.filterMap_cons_some e] at hn; exact (List.nodup_cons.mp hn).2
    exact congrArg Nat.succ (nodup_filterMap this i j x y c (by simpa using h1) (by simpa using h2) h3 h4)
theorem lok_of (hS : StR K mg w s σ H) {md : List Bool} {rs : List R} {vs : List V} (hr : RRs K mg w s.ce.length H vs rs) (h : passL s md rs = some L) (ha : apart L = true) : LOk K mg w s H L vs := by
  obtain ⟨l, q⟩ := passL_ok hS hr h
  unfold apart at ha
  obtain ⟨a1, a2⟩ := Bool.and_eq_true_iff.mp ha
  have a1 := of_decide_eq_true a1
  refine ⟨l, q, fun i j c x y e1 e2 => nodup_filterMap a1 i j _ _ c e1 e2 rfl rfl, fun i j c x ds e1 e2 => ?_⟩
  have := List.all_eq_true.mp a2 c (List.mem_filterMap.mpr ⟨_, List.mem_of_getElem? e2, rfl⟩)
  exact of_decide_eq_true this (List.mem_filterMap.mpr ⟨_, List.mem_of_getElem? e1, rfl⟩)
theorem LOk.cell {vs : List V} (hL : LOk K mg w s H L vs) {i c : Nat} {x : Cell} (e : L[i]? = some (.io c x)) : s.ce[c]? = some x ∧ x.open?.isSome = true := by
  obtain ⟨v, _, q⟩ := hL.at_ i _ e
  exact q.2
theorem LOk.lent {vs : List V} (hL : LOk K mg w s H L vs) {i c : Nat} {ds : List D} (e : L[i]? = some (.lent c ds)) : ∃ x, s.ce[c]? = some x ∧ x.open?.isSome = true ∧ (x = .lv ds ∨ x = .lk ds) := by
  obtain ⟨v, _, _, q⟩ := hL.at_ i _ e
  rcases q with q | q
  · exact ⟨_, q, rfl, .inl rfl⟩
  · exact ⟨_, q, rfl, .inr rfl⟩
theorem open_cl (hS : StR K mg w s σ H) {c : Nat} {x : Cell} (e : s.ce[c]? = some x) (o : x.open?.isSome = true) : ¬ w.Z (w.ρ c) ∧ ∃ o, H (w.ρ c) = some o := by
  have q := hS.cl c x e
  cases x with
  | dead => cases o
  | fz ds => cases o
  | tr d => cases o
  | lv ds => exact ⟨q.1, let ⟨_, xs, q, _⟩ := q; ⟨_, q⟩⟩
  | lk ds => exact ⟨q.1, let ⟨_, xs, q, _⟩ := q; ⟨_, q⟩⟩
  | dv ds => exact ⟨q.1, let ⟨_, xs, q, _⟩ := q; ⟨_, q⟩⟩
theorem lst_cl (hS : StR K mg w s σ H) {c : Nat} {x : Cell} {ds : List D} (e : s.ce[c]? = some x) (o : x = .lv ds ∨ x = .lk ds) : ¬ w.Z (w.ρ c) ∧ ∃ xs, H (w.ρ c) = some (.lst xs) ∧ Dens K w.Z H xs ds := by
  have q := hS.cl c x e
  rcases o with rfl | rfl
  · exact q
  · exact q
/-- an address of an io cell is not lent -/
theorem LOk.nl {vs : List V} (hS : StR K mg w s σ H) (hL : LOk K mg w s H L vs) {i c : Nat} {x : Cell} (e : L[i]? = some (.io c x)) : ¬ LentA w L (w.ρ c) := fun ⟨j, c', ds, e', ea⟩ => by
  obtain ⟨h1, h2⟩ := hL.cell e
  obtain ⟨y, h3, h4, _⟩ := hL.lent e'
  have := hS.inj c c' _ _ h1 h3 h2 h4 ea
  subst this
  exact hL.ap i j c x ds e e'
theorem lent_lst {vs : List V} (hS : StR K mg w s σ H) (hL : LOk K mg w s H L vs) {a : Addr} (h : LentA w L a) : ¬ w.Z a ∧ ∃ xs, H a = some (.lst xs) := by
  obtain ⟨j, c, ds, e, rfl⟩ := h
  obtain ⟨x, h1, _, h2⟩ := hL.lent e
  obtain ⟨a, xs, b, _⟩ := lst_cl hS h1 h2
  exact ⟨a, xs, b⟩
theorem stay_go : Stay w.Z H (w.go L).Z H := ⟨fun _ h => .inl h, fun _ _ _ h => h, fun _ _ h => h, fun _ _ _ h => h, fun _ _ _ h => h, fun _ _ h => h⟩
theorem ent_get {ps : List R} {io : List Cell} {i : Nat} {x : Cell} (e : (ent n ps io).ce[i]? = some x) : (i < io.length ∧ io[i]? = some x) ∨ x = .dead := by
  have e : (io ++ List.replicate n .dead)[i]? = some x := e
  by_cases hi : i < io.length
  · rw [List.getElem?_append_left hi] at e
    exact .inl ⟨hi, e⟩
  · rw [List.getElem?_append_right (Nat.le_of_not_lt hi), List.getElem?_replicate] at e
    split at e
    · exact .inr (Option.some.inj e).symm
    · cases e
theorem io_get {i : Nat} {x : Cell} (e : (ioOf L)[i]? = some x) (o : x ≠ .dead) : ∃ c, L[i]? = some (.io c x) := by
  unfold ioOf at e
  rw [List.getElem?_map] at e
  cases q : L[i]? with
  | none => rw [q] at e; cases e
  | some pa =>
    rw [q] at e
    have e : pa.cell = x := Option.some.inj e
    subst e
    cases pa with
    | io c x => exact ⟨c, rfl⟩
    | sh d => exact absurd rfl o
    | lent c ds => exact absurd rfl o
    | ex _ => exact absurd rfl o
theorem ps_len : (psOf L).length = L.length := by simp [psOf]
theorem io_len : (ioOf L).length = L.length := by simp [ioOf]
theorem ent_nt {vs : List V} (hL : LOk K mg w s H L vs) {i : Nat} {d : D} (e : (ent n (psOf L) (ioOf L)).ce[i]? = some (.tr d)) : False := by
  rcases ent_get e with ⟨_, e⟩ | z
  · obtain ⟨c, q⟩ := io_get e (by simp)
    have := (hL.cell q).2
    cases this
  · cases z
/-- the callee's first state -/
theorem ent_ok {vs : List V} (hS : StR K mg w s σ H) (hL : LOk K mg w s H L vs) (hn : L.length ≤ n) : StR K mg (w.go L) (ent n (psOf L) (ioOf L)) (startN n vs) H where
  cl := fun i x e => by
    rcases ent_get e with ⟨hi, e⟩ | rfl
    · by_cases o : x = .dead
      · subst o; trivial
      · obtain ⟨c, q⟩ := io_get e o
        obtain ⟨h1, h2⟩ := hL.cell q
        obtain ⟨h3, _⟩ := open_cl hS h1 h2
        have nz : ¬ (w.go L).Z (w.ρ c) := fun z => z.elim h3 (hL.nl hS q)
        rw [go_io q]
        have q1 := hS.cl c x h1
        cases x with
        | dead => cases h2
        | fz ds => cases h2
        | tr d => cases h2
        | lv ds => obtain ⟨_, xs, h4, h5⟩ := q1; exact ⟨nz, xs, h4, Dens.stay stay_go h5⟩
        | lk ds => obtain ⟨_, xs, h4, h5⟩ := q1; exact ⟨nz, xs, h4, Dens.stay stay_go h5⟩
        | dv ds => obtain ⟨_, xs, h4, h5⟩ := q1; exact ⟨nz, xs, h4, DKs.stay stay_go h5⟩
    · trivial
  inj := fun i j x y e1 e2 o1 o2 e3 => by
    rcases ent_get e1 with ⟨hi, e1⟩ | rfl
    · rcases ent_get e2 with ⟨hj, e2⟩ | rfl
      · obtain ⟨c, q⟩ := io_get e1 (fun z => by subst z; cases o1)
        obtain ⟨c', q'⟩ := io_get e2 (fun z => by subst z; cases o2)
        rw [go_io q, go_io q'] at e3
        obtain ⟨h1, h2⟩ := hL.cell q
        obtain ⟨h1', h2'⟩ := hL.cell q'
        have := hS.inj c c' _ _ h1 h1' h2 h2' e3
        subst this
        exact hL.one i j c _ _ q q'
      · cases o2
    · cases o1
  sl := fun i r e => by
    have e : ((psOf L).map some ++ List.replicate (n - (psOf L).length) none)[i]? = some (some r) := e
    by_cases hi : i < L.length
    · rw [List.getElem?_append_left (by simpa [ps_len] using hi), List.getElem?_map] at e
      have er : (psOf L)[i]? = some r := by
        cases q : (psOf L)[i]? with
        | none => rw [q] at e; cases e
        | some r' => rw [q] at e; exact congrArg some (Option.some.inj (Option.some.inj e))
      unfold psOf at er
      rw [List.getElem?_mapIdx] at er
      cases q : L[i]? with
      | none => rw [q] at er; cases er
      | some pa =>
        rw [q] at er
        have er : pa.r i = r := Option.some.inj er
        subst er
        obtain ⟨v, hv, hp⟩ := hL.at_ i pa q
        refine ⟨v, ?_, ?_⟩
        · unfold startN
          rw [List.getElem?_append_left (by rw [List.length_map, ← hL.ln]; exact hi), List.getElem?_map, hv]
          rfl
        · cases pa with
          | sh d => exact Den.stay stay_go hp
          | ex _ => exact ExV.stay stay_go hp
          | io c x =>
            obtain ⟨rfl, _⟩ := hp
            exact ⟨by rw [go_io q], by show i < (ioOf L ++ List.replicate n Cell.dead).length; rw [List.length_append, io_len]; omega⟩
          | lent c ds =>
            obtain ⟨x, h1, h2, h3⟩ := hL.lent q
            obtain ⟨h4, xs, h5, h6⟩ := lst_cl hS h1 h3
            obtain ⟨rfl, _⟩ := hp
            exact .lst (.inl ⟨.inr ⟨i, c, ds, q, rfl⟩, h5⟩) (Dens.stay stay_go h6)
    · rw [List.getElem?_append_right (by simpa [ps_len] using Nat.le_of_not_lt hi), List.getElem?_replicate] at e
      split at e <;> cases e
  sn := by
    show ((psOf L).map some ++ List.replicate (n - (psOf L).length) none).length ≤ (startN n vs).length
    unfold startN
    simp only [List.length_append, List.length_map, List.length_replicate, ps_len, hL.ln]
    exact Nat.le_refl _
  zt := fun a z => by
    rcases z with z | z
    · exact hS.zt a z
    · obtain ⟨_, xs, q⟩ := lent_lst hS hL z
      exact ⟨_, q⟩
  sb := fun i c e => by
    have e : ((psOf L).map some ++ List.replicate (n - (psOf L).length) none)[i]? = some (some (.own c)) := e
    show c < (ioOf L).length + ((psOf L).map some ++ List.replicate (n - (psOf L).length) none).length
    by_cases hi : i < L.length
    · rw [List.getElem?_append_left (by simpa [ps_len] using hi), List.getElem?_map] at e
      have er : (psOf L)[i]? = some (.own c) := by
        cases q : (psOf L)[i]? with
        | none => rw [q] at e; cases e
        | some r' => rw [q] at e; exact congrArg some (Option.some.inj (Option.some.inj e))
      unfold psOf at er
      rw [List.getElem?_mapIdx] at er
      cases q : L[i]? with
      | none => rw [q] at er; cases er
      | some pa =>
        rw [q] at er
        have er : pa.r i = .own c := Option.some.inj er
        cases pa with
        | sh d => cases er
        | io c' x => cases er; rw [io_len]; omega
        | lent c' ds => cases er
        | ex _ => cases er
    · rw [List.getElem?_append_right (by simpa [ps_len] using Nat.le_of_not_lt hi), List.getElem?_replicate] at e
      split at e <;> cases e
  bs := by
    show (ioOf L).length + ((psOf L).map some ++ List.replicate (n - (psOf L).length) none).length ≤ (ioOf L ++ List.replicate n Cell.dead).length
    simp only [List.length_append, List.length_map, List.length_replicate, ps_len, io_len]
    omega
  lb := fun i ds e => by
    rcases ent_get e with ⟨hi, _⟩ | z
    · show i < (ioOf L).length + _
      omega
    · cases z
  sm := hS.sm
  tt := fun i d e => (ent_nt hL e).elim
/-! back in the caller -/
theorem wb_len : ∀ {L : List Pa} {i : Nat} {s : S}, (wb L i s' s).ce.length = s.ce.length
  | [], _, _ => rfl
  | .io c x :: L, i, s => by unfold wb; rw [wb_len, put_len]
  | .sh d :: L, i, s => by unfold wb; exact wb_len
  | .lent c ds :: L, i, s => by unfold wb; exact wb_len
  | .ex _ :: L, i, s => by unfold wb; exact wb_len
theorem wb_sl : ∀ {L : List Pa} {i : Nat} {s : S}, (wb L i s' s).sl = s.sl ∧ (wb L i s' s).np = s.np
  | [], _, _ => ⟨rfl, rfl⟩
  | .io c x :: L, i, s => by unfold wb; exact wb_sl (L := L)
  | .sh d :: L, i, s => by unfold wb; exact wb_sl
  | .lent c ds :: L, i, s => by unfold wb; exact wb_sl
  | .ex _ :: L, i, s => by unfold wb; exact wb_sl
theorem wb_get : ∀ {L : List Pa} {i : Nat} {s : S} {c : Nat} {y : Cell}, (wb L i s' s).ce[c]? = some y → (∃ (j : Nat) (x : Cell), L[j]? = some (.io c x) ∧ y = norm x (s'.cellAt (i + j))) ∨ ((∀ (j : Nat) (x : Cell), L[j]? ≠ some (.io c x)) ∧ s.ce[c]? = some y)
  | [], i, s, c, y, e => .inr ⟨fun j x z => by simp at z, e⟩
  | .io c0 x0 :: L, i, s, c, y, e => by
    unfold wb at e
    rcases wb_get e with ⟨j, x, q, rfl⟩ | ⟨q, e⟩
    · refine .inl ⟨j + 1, x, by simpa using q, ?_⟩
      rw [show i + 1 + j = i + (j + 1) by omega]
    · rcases put_get e with ⟨rfl, rfl, _⟩ | ⟨hne, e⟩
      · exact .inl ⟨0, x0, rfl, rfl⟩
      · refine .inr ⟨fun j x z => ?_, e⟩
        cases j with
        | zero =>
          have : Pa.io c0 x0 = .io c x := by simpa using z
          cases this
          exact hne rfl
        | succ j => exact q j x (by simpa using z)
  | .sh d :: L, i, s, c, y, e => by
    unfold wb at e
    rcases wb_get e with ⟨j, x, q, rfl⟩ | ⟨q, e⟩
    · refine .inl ⟨j + 1, x, by simpa using q, ?_⟩
      rw [show i + 1 + j = i + (j + 1) by omega]
    · refine .inr ⟨fun j x z => ?_, e⟩
      cases j with
      | zero => simp at z
      | succ j => exact q j x (by simpa using z)
  | .lent d ds :: L, i, s, c, y, e => by
    unfold wb at e
    rcases wb_get e with ⟨j, x, q, rfl⟩ | ⟨q, e⟩
    · refine .inl ⟨j + 1, x, by simpa using q, ?_⟩
      rw [show i + 1 + j = i + (j + 1) by omega]
    · refine .inr ⟨fun j x z => ?_, e⟩
      cases j with
      | zero => simp at z
      | succ j => exact q j x (by simpa using z)
  | .ex d :: L, i, s, c, y, e => by
    unfold wb at e
    rcases wb_get e with ⟨j, x, q, rfl⟩ | ⟨q, e⟩
    · refine .inl ⟨j + 1, x, by simpa using q, ?_⟩
      rw [show i + 1 + j = i + (j + 1) by omega]
    · refine .inr ⟨fun j x z => ?_, e⟩
      cases j with
      | zero => simp at z
      | succ j => exact q j x (by simpa using z)
theorem fine_at {b : Bool} : ∀ {L : List Pa} {i : Nat}, ioFine b L i s' = true → ∀ (j c : Nat) (x : Cell), L[j]? = some (.io c x) → (s'.cellAt (i + j)).act ∧ (b = false ∨ atomDs (s'.cellAt (i + j)).list = true)
  | [], _, _, j, _, _, e => by simp at e
  | pa :: L, i, h, 0, c, x, e => by
    have e : pa = .io c x := by simpa using e
    subst e
    unfold ioFine at h
    obtain ⟨h1, _⟩ := Bool.and_eq_true_iff.mp h
    rw [Nat.add_zero]
    cases q : s'.cellAt i with
    | dead => rw [q] at h1; cases h1
    | tr _ => rw [q] at h1; cases h1
    | lv ds => rw [q] at h1; exact ⟨trivial, by cases b <;> simp_all [Cell.list]⟩
    | lk ds => rw [q] at h1; exact ⟨trivial, by cases b <;> simp_all [Cell.list]⟩
    | fz ds => rw [q] at h1; exact ⟨trivial, by cases b <;> simp_all [Cell.list]⟩
    | dv ds => rw [q] at h1; exact ⟨trivial, by cases b <;> simp_all [Cell.list]⟩
  | pa :: L, i, h, j + 1, c, x, e => by
    have h2 : ioFine b L (i + 1) s' = true := by
      cases pa with
      | io c x => unfold ioFine at h; exact (Bool.and_eq_true_iff.mp h).2
      | sh d => unfold ioFine at h; exact h
      | lent c ds => unfold ioFine at h; exact h
      | ex _ => unfold ioFine at h; exact h
    rw [show i + (j + 1) = i + 1 + j by omega]
    exact fine_at h2 j c x (by simpa using e)
mutual
theorem Den.atom : ∀ {v : V} {d : D}, Den K Z H v d → atomD d = true → Den K Z' H v d
  | _, _, .non, _ => .non
  | _, _, .bl b, _ => .bl b
  | _, _, .int i, _ => .int i
  | _, _, .str x, _ => .str x
  | _, _, .tup h ha, q => .tup h (Dens.atom ha (by unfold atomD at q; exact q))
  | _, _, .lst h ha, q => by unfold atomD at q; cases q
  | _, _, .dic h ha, q => by unfold atomD at q; cases q
theorem Dens.atom : ∀ {vs : List V} {ds : List D}, Dens K Z H vs ds → atomDs ds = true → Dens K Z' H vs ds
  | _, _, .nil, _ => .nil
  | _, _, .cons h t, q => by
    unfold atomDs at q
    obtain ⟨q1, q2⟩ := Bool.and_eq_true_iff.mp q
    exact .cons (Den.atom h q1) (Dens.atom t q2)
end
/-- the caller's world behind the call -/
def Wd.ret (w w' : Wd) (L : List Pa) : Wd := ⟨fun a => w'.Z a ∧ ¬ LentA w L a, w.ρ, w.τ⟩
theorem nolent (h : lentIn L = false) (a : Addr) : ¬ LentA w L a := fun ⟨j, c, ds, e, _⟩ => by
  unfold lentIn at h
  have := List.any_eq_false.mp h _ (List.mem_of_getElem? e)
  exact this rfl
theorem dens_ret {xs : List V} {ds : List D} (h : lentIn L = false ∨ atomDs ds = true) (d : Dens K w'.Z H xs ds) : Dens K (w.ret w' L).Z H xs ds := by
  rcases h with h | h
  · exact d.stay ⟨fun a z => ⟨z, nolent h a⟩, fun _ _ _ q => q, fun _ _ q => q, fun _ _ _ q => q, fun _ _ _ q => q, fun _ _ q => q⟩
  · exact d.atom h
theorem den_ret {v : V} {ds : D} (h : lentIn L = false ∨ atomD ds = true) (d : Den K w'.Z H v ds) : Den K (w.ret w' L).Z H v ds := by
  rcases h with h | h
  · exact d.stay ⟨fun a z => ⟨z, nolent h a⟩, fun _ _ _ q => q, fun _ _ q => q, fun _ _ _ q => q, fun _ _ _ q => q, fun _ _ q => q⟩
  · exact d.atom h
theorem DKs.atom : ∀ {vs : List (Key × V)} {ds : List (Key × D)}, DKs K Z H vs ds → atomDs (ds.map (·.2)) = true → DKs K Z' H vs ds
  | _, _, .nil, _ => .nil
  | _, _, .cons h t, q => by
    simp only [List.map_cons] at q
    unfold atomDs at q
    obtain ⟨q1, q2⟩ := Bool.and_eq_true_iff.mp q
    exact .cons (Den.atom h q1) (DKs.atom t q2)
theorem dks_ret {xs : List (Key × V)} {ds : List (Key × D)} (h : lentIn L = false ∨ atomDs (ds.map (·.2)) = true) (d : DKs K w'.Z H xs ds) : DKs K (w.ret w' L).Z H xs ds := by
  rcases h with h | h
  · exact d.stay ⟨fun a z => ⟨z, nolent h a⟩, fun _ _ _ q => q, fun _ _ q => q, fun _ _ _ q => q, fun _ _ _ q => q, fun _ _ q => q⟩
  · exact d.atom h
/-- what the callee's end says of the caller's addresses -/
structure Back (K : PySem.W.Frag) (w : Wd) (s : S) (H : Hp) (w' : Wd) (s' : S) (H' : Hp) (L : List Pa) : Prop where
  keep : ∀ a o, H a = some o → (∀ (j c : Nat) (x : Cell), L[j]? = some (.io c x) → x.chg → a ≠ w.ρ c) → H' a = some o
  zn : ∀ a, w'.Z a → (w.Z a ∨ LentA w L a) ∨ H a = none ∨ ∃ (j c : Nat) (x : Cell), L[j]? = some (.io c x) ∧ x.chg ∧ a = w.ρ c
  z : ∀ a, w.Z a ∨ LentA w L a → w'.Z a
  ρ : ∀ (j c : Nat) (x : Cell), L[j]? = some (.io c x) → w'.ρ j = w.ρ c
  new : ∀ (c : Nat) (x : Cell), L.length ≤ c → s'.ce[c]? = some x → x.chg → H (w'.ρ c) = none
  newT : ∀ (c : Nat) (d : D), s'.ce[c]? = some (.tr d) → ∀ b ∈ w'.τ c, H b = none
  lk : ∀ (j c : Nat) (ds : List D), L[j]? = some (.io c (.lk ds)) → s'.ce[j]? = some (.lk ds)
theorem act_ne {x : Cell} (h : x.act) : x ≠ .dead := fun e => by subst e; exact h
theorem live_ent {vs : List V} (hL : LOk K mg w s H L vs) {a : Addr} (h : Live (w.go L) (ent n (psOf L) (ioOf L)) a) : ∃ (j c : Nat) (x : Cell), L[j]? = some (.io c x) ∧ x.chg ∧ a = w.ρ c := by
  rcases h with ⟨i, x, e, cx, rfl⟩ | ⟨i, d, e, _⟩
  rotate_left
  · exact (ent_nt hL e).elim
  rcases ent_get e with ⟨_, e⟩ | z
  · obtain ⟨c, q⟩ := io_get e (fun z => by subst z; exact cx)
    exact ⟨i, c, x, q, cx, go_io q⟩
  · subst z; exact cx.elim
theorem back_of {vs : List V} (hS : StR K mg w s σ H) (hL : LOk K mg w s H L vs) (h : StR K mg w' s' σ' H') (e : Ext L.length (w.go L) (ent n (psOf L) (ioOf L)) H w' s' H') (hf : ∀ (j c : Nat) (x : Cell), L[j]? = some (.io c x) → (s'.cellAt j).act) : Back K w s H w' s' H' L := by
  have pr : ∀ (j c : Nat) (x : Cell), L[j]? = some (.io c x) → w'.ρ j = w.ρ c := fun j c x q => by
    rw [e.pr j (List.getElem?_eq_some_iff.mp q).1, go_io q]
  refine ⟨fun a o q hn => e.k a o q fun l => ?_, fun a z => ?_, fun a z => e.z a z, pr, fun c y hc q cy => ?_, fun c d q b hb => ?_, fun j c ds q => ?_⟩
  · obtain ⟨j, c, y, q1, cy, q2⟩ := live_ent hL l
    exact hn j c y q1 cy q2
  · rcases e.zn a z with z | z | z
    · exact .inl z
    · exact .inr (.inl z)
    · exact .inr (.inr (live_ent hL z))
  · have nzc : ¬ w'.Z (w'.ρ c) := (open_cl h q (chg_open cy)).1
    rcases e.lz _ (.inl ⟨c, y, q, cy, rfl⟩) with z | z
    · obtain ⟨j, c', ds', q1, _, q2⟩ := live_ent hL z
      have hj := (List.getElem?_eq_some_iff.mp q1).1
      have r := pr j c' _ q1
      cases ej : s'.cellAt j with
      | dead => exact absurd ej (act_ne (hf j c' _ q1))
      | tr es => have := hf j c' _ q1; rw [ej] at this; exact this.elim
      | fz es =>
        obtain ⟨hz, _⟩ := h.cl j _ (S.cellAt_some ej (by simp))
        rw [r, ← q2] at hz
        exact absurd hz nzc
      | lv es =>
        have := h.inj j c _ _ (S.cellAt_some ej (by simp)) q rfl (chg_open cy) (by rw [r, q2])
        omega
      | dv es =>
        have := h.inj j c _ _ (S.cellAt_some ej (by simp)) q rfl (chg_open cy) (by rw [r, q2])
        omega
      | lk es =>
        have := h.inj j c _ _ (S.cellAt_some ej (by simp)) q rfl (chg_open cy) (by rw [r, q2])
        omega
    · exact z
  · rcases e.lz b (.inr ⟨c, d, q, hb⟩) with z | z
    · obtain ⟨j, c', ds', q1, _, q2⟩ := live_ent hL z
      have r := pr j c' _ q1
      have T := h.tt c d q
      cases ej : s'.cellAt j with
      | dead => exact absurd ej (act_ne (hf j c' _ q1))
      | tr es => have := hf j c' _ q1; rw [ej] at this; exact this.elim
      | fz es =>
        obtain ⟨hz, _⟩ := h.cl j _ (S.cellAt_some ej (by simp))
        rw [r, ← q2] at hz
        exact absurd hz (T.nz b hb)
      | lv es => exact absurd (r.trans q2.symm) (T.no b hb j _ (S.cellAt_some ej (by simp)) rfl)
      | dv es => exact absurd (r.trans q2.symm) (T.no b hb j _ (S.cellAt_some ej (by simp)) rfl)
      | lk es => exact absurd (r.trans q2.symm) (T.no b hb j _ (S.cellAt_some ej (by simp)) rfl)
    · exact z
  · refine (e.lk j ds ?_).1
    show (ioOf L ++ List.replicate n Cell.dead)[j]? = _
    rw [List.getElem?_append_left (by rw [io_len]; exact (List.getElem?_eq_some_iff.mp q).1)]
    unfold ioOf
    rw [List.getElem?_map, q]
    rfl
theorem ret_ok {vs : List V} (hS : StR K mg w s σ H) (hL : LOk K mg w s H L vs) (h : StR K mg w' s' σ' H') (B : Back K w s H w' s' H' L) (hf : ∀ (j c : Nat) (x : Cell), L[j]? = some (.io c x) → (s'.cellAt j).act ∧ (lentIn L = false ∨ atomDs (s'.cellAt j).list = true)) :
    StR K mg (w.ret w' L) (wb L 0 s' s) σ H' ∧ Ext s.ce.length w s H (w.ret w' L) (wb L 0 s' s) H' ∧ (∀ b, InT (w.ret w' L) (wb L 0 s' s) b → InT w s b) := by
  -- an open cell of the caller that went over or not
  have nlv : ∀ {c : Nat} {x : Cell}, s.ce[c]? = some x → x.open?.isSome = true → (∀ (j : Nat) (y : Cell), L[j]? ≠ some (.io c y)) → ∀ (j c' : Nat) (y : Cell), L[j]? = some (.io c' y) → y.chg → w.ρ c ≠ w.ρ c' := fun {c x} e o hn j c' ds q _ z => by
    obtain ⟨h1, h2⟩ := hL.cell q
    have := hS.inj c c' _ _ e h1 o h2 z
    subst this
    exact hn j _ q
  have nz : ∀ {a : Addr}, w.Z a → ∀ (j c' : Nat) (y : Cell), L[j]? = some (.io c' y) → y.chg → a ≠ w.ρ c' := fun {a} z j c' ds q _ e => by
    obtain ⟨h1, h2⟩ := hL.cell q
    obtain ⟨h3, _⟩ := open_cl hS h1 h2
    exact h3 (e ▸ z)
  have zk : ∀ a, w.Z a → (w.ret w' L).Z a := fun a z => ⟨B.z a (.inl z), fun l => (lent_lst hS hL l).1 z⟩
  have notl : ∀ {a : Addr} {o : HO}, H a = some o → (∀ xs, o ≠ .lst xs) → (∀ xs, o ≠ .dK xs) → (∀ C dx kvs, o ≠ .ins C dx kvs) → H' a = some o := fun {a o} q hn hn2 hn3 => B.keep a o q fun j c' y q' cy e => by
    obtain ⟨h1, h2⟩ := hL.cell q'
    exact hS.live_ne q hn hn2 hn3 (.inl ⟨c', y, h1, cy, e.symm⟩)
  have y : Stay w.Z H (w.ret w' L).Z H' := ⟨zk, fun a xs z q => B.keep a _ q (nz z), fun a xs q => notl q (by simp) (by simp) (by simp), fun a o u q => notl q (by simp) (by simp) (by simp), fun a u z q => B.keep a _ q (nz z), fun a u q => notl q (by simp) (by simp) (by simp)⟩
  have zo : ∀ {c : Nat} {x : Cell}, s.ce[c]? = some x → x.open?.isSome = true → (∀ (j : Nat) (y : Cell), L[j]? ≠ some (.io c y)) → ¬ (w.ret w' L).Z (w.ρ c) := fun {c x} e o hn ⟨z1, z2⟩ => by
    obtain ⟨h1, xs, h2⟩ := open_cl hS e o
    rcases B.zn _ z1 with (z | z) | z | ⟨j, c', ds, q, cy, z⟩
    · exact h1 z
    · exact z2 z
    · rw [h2] at z; cases z
    · exact nlv e o hn j c' ds q cy z
  have ioS : ∀ {j c : Nat} {x : Cell}, L[j]? = some (.io c x) → s'.ce[j]? = some (s'.cellAt j) := fun {j c x} q => S.cellAt_some rfl (act_ne (hf j c x q).1)
  have cl : ∀ (i : Nat) (x : Cell), (wb L 0 s' s).ce[i]? = some x → CellR K (w.ret w' L).Z H' (w.ρ i) x := fun i x e => by
    rcases wb_get e with ⟨j, x0, q, rfl⟩ | ⟨hn, e⟩
    · rw [Nat.zero_add]
      have q1 := h.cl j _ (ioS q)
      obtain ⟨f1, f2⟩ := hf j i x0 q
      rw [B.ρ j i x0 q] at q1
      have nl := hL.nl hS q
      cases ec : s'.cellAt j with
      | dead => exact absurd ec (act_ne f1)
      | tr _ => rw [ec] at f1; exact f1.elim
      | lv ds =>
        rw [ec] at q1 f2
        obtain ⟨a, xs, b, d⟩ := q1
        have z : CellR K (w.ret w' L).Z H' (w.ρ i) (.lv ds) := ⟨fun z => a z.1, xs, b, dens_ret f2 d⟩
        cases x0 <;> exact z
      | lk ds =>
        rw [ec] at q1 f2
        obtain ⟨a, xs, b, d⟩ := q1
        have z : CellR K (w.ret w' L).Z H' (w.ρ i) (.lv ds) := ⟨fun z => a z.1, xs, b, dens_ret f2 d⟩
        cases x0 <;> exact z
      | fz ds =>
        rw [ec] at q1 f2
        obtain ⟨a, xs, b, d⟩ := q1
        have z : CellR K (w.ret w' L).Z H' (w.ρ i) (.fz ds) := ⟨⟨a, nl⟩, xs, b, dens_ret f2 d⟩
        cases x0 <;> exact z
      | dv ds =>
        rw [ec] at q1 f2
        obtain ⟨a, xs, b, d⟩ := q1
        have z : CellR K (w.ret w' L).Z H' (w.ρ i) (.dv ds) := ⟨fun z => a z.1, xs, b, dks_ret f2 d⟩
        cases x0 <;> exact z
    · have q1 := hS.cl i x e
      cases x with
      | dead => trivial
      | tr _ => trivial
      | lv ds => obtain ⟨a, xs, b, d⟩ := q1; exact ⟨zo e rfl hn, xs, B.keep _ _ b (nlv e rfl hn), d.stay y⟩
      | lk ds => obtain ⟨a, xs, b, d⟩ := q1; exact ⟨zo e rfl hn, xs, B.keep _ _ b (nlv e rfl hn), d.stay y⟩
      | fz ds => obtain ⟨a, xs, b, d⟩ := q1; exact ⟨zk _ a, xs, B.keep _ _ b (nz a), d.stay y⟩
      | dv ds => obtain ⟨a, xs, b, d⟩ := q1; exact ⟨zo e rfl hn, xs, B.keep _ _ b (nlv e rfl hn), d.stay y⟩
  have op : ∀ (i : Nat) (x : Cell), (wb L 0 s' s).ce[i]? = some x → x.open?.isSome = true → ∃ x', s.ce[i]? = some x' ∧ x'.open?.isSome = true := fun i x e o => by
    rcases wb_get e with ⟨j, x0, q, rfl⟩ | ⟨hn, e⟩
    · exact ⟨x0, (hL.cell q).1, (hL.cell q).2⟩
    · exact ⟨x, e, o⟩
  have trs : ∀ (i : Nat) (d : D), (wb L 0 s' s).ce[i]? = some (.tr d) → s.ce[i]? = some (.tr d) ∧ True := fun i d e => by
    rcases wb_get e with ⟨j, x0, q, e⟩ | ⟨hn, e⟩
    · rw [Nat.zero_add] at e
      have f1 := (hf j i x0 q).1
      exfalso
      cases ec : s'.cellAt j with
      | dead => exact act_ne f1 ec
      | tr _ => rw [ec] at f1; exact f1
      | lv ds => rw [ec] at e; cases x0 <;> cases e
      | lk ds => rw [ec] at e; cases x0 <;> cases e
      | fz ds => rw [ec] at e; cases x0 <;> cases e
      | dv ds => rw [ec] at e; cases x0 <;> cases e
    · exact ⟨e, trivial⟩
  refine ⟨⟨cl, fun i j x y' e1 e2 o1 o2 e3 => ?_, fun i r e => ?_, by rw [wb_sl.1]; exact hS.sn, fun a z => ?_, fun i c e => ?_, by rw [wb_sl.1, wb_sl.2, wb_len]; exact hS.bs, fun i ds e => ?_, h.sm,
    hS.tr_keep (w' := w.ret w' L) y (fun i d e => ⟨(trs i d e).1, rfl, rfl⟩) (fun b t o q => B.keep b o q fun j c x q1 cx ea => hS.t_no t (hL.cell q1).1 (hL.cell q1).2 ea.symm) (fun b t z => by
      rcases B.zn b z.1 with (z1 | z1) | z1 | ⟨j, c', y, q, cy, z1⟩
      · exact z1
      · exact absurd z1 z.2
      · obtain ⟨o, q, _⟩ := hS.t_at t; rw [z1] at q; cases q
      · exact absurd z1.symm (hS.t_no t (hL.cell q).1 (hL.cell q).2)) fun b t j x e o q => by
        obtain ⟨x', a1, a2⟩ := op j x e o
        exact ⟨j, x', a1, a2, q⟩⟩,
    ⟨zk, fun a z => ?_, fun a o q hl => B.keep a o q fun j c y q1 cy q2 => hl (.inl ⟨c, y, (hL.cell q1).1, cy, q2.symm⟩), fun a => lz2 (fun i z e cz ea => ?_) (fun ⟨i, d, e, m⟩ => .inl (.inr ⟨i, d, (trs i d e).1, m⟩)), fun _ _ => rfl, by rw [wb_len]; exact Nat.le_refl _, fun i ds e => ⟨?_, rfl⟩, wb_sl.2, by rw [wb_sl.1]⟩, fun b ⟨i, d, e, m⟩ => ⟨i, d, (trs i d e).1, m⟩⟩
  · obtain ⟨x', a1, b1⟩ := op i x e1 o1
    obtain ⟨y'', a2, b2⟩ := op j y' e2 o2
    exact hS.inj i j _ _ a1 a2 b1 b2 e3
  · rw [wb_sl.1] at e
    obtain ⟨v, e1, e2⟩ := hS.sl i r e
    refine ⟨v, e1, ?_⟩
    cases r with
    | sh d => exact Den.stay y e2
    | ex _ => exact ExV.stay y e2
    | own c => exact ⟨e2.1, by rw [wb_len]; exact e2.2⟩
  · exact h.zt a z.1
  · rw [wb_sl.1] at e
    rw [wb_sl.1, wb_sl.2]
    exact hS.sb i c e
  · rw [wb_sl.1, wb_sl.2]
    rcases wb_get e with ⟨j, x0, q, e⟩ | ⟨_, e⟩
    · rw [Nat.zero_add] at e
      cases x0 with
      | lk es => exact hS.lb i es (hL.cell q).1
      | lv es => cases ec : s'.cellAt j <;> rw [ec] at e <;> cases e
      | dv es => cases ec : s'.cellAt j <;> rw [ec] at e <;> cases e
      | dead => exact absurd (hL.cell q).2 (by simp [Cell.open?])
      | tr _ => exact absurd (hL.cell q).2 (by simp [Cell.open?])
      | fz es => exact absurd (hL.cell q).2 (by simp [Cell.open?])
    · exact hS.lb i ds e
  · rcases B.zn a z.1 with (z1 | z1) | z1 | ⟨j, c', y, q, cy, z1⟩
    · exact .inl z1
    · exact absurd z1 z.2
    · exact .inr (.inl z1)
    · exact .inr (.inr (.inl ⟨c', y, (hL.cell q).1, cy, z1.symm⟩))
  · have ea : w.ρ i = a := ea
    rcases wb_get e with ⟨j, x0, q, e⟩ | ⟨_, e⟩
    · rw [Nat.zero_add] at e
      cases x0 with
      | lv es => exact .inl (.inl ⟨i, _, (hL.cell q).1, trivial, ea⟩)
      | dv es => exact .inl (.inl ⟨i, _, (hL.cell q).1, trivial, ea⟩)
      | tr _ => exact absurd (hL.cell q).2 (by simp [Cell.open?])
      | lk es =>
        have := B.lk j i es q
        unfold S.cellAt at e
        rw [this] at e
        subst e
        exact cz.elim
      | dead => exact absurd (hL.cell q).2 (by simp [Cell.open?])
      | fz es => exact absurd (hL.cell q).2 (by simp [Cell.open?])
    · exact .inl (.inl ⟨i, z, e, cz, ea⟩)
  · have hi : i < (wb L 0 s' s).ce.length := by rw [wb_len]; exact (List.getElem?_eq_some_iff.mp e).1
    have e2 := List.getElem?_eq_getElem hi
    rcases wb_get e2 with ⟨j, x0, q, e3⟩ | ⟨_, e3⟩
    · rw [Nat.zero_add] at e3
      have := (hL.cell q).1
      rw [e] at this
      cases this
      have := B.lk j i ds q
      unfold S.cellAt at e3
      rw [this] at e3
      rw [e2, e3]
      rfl
    · rw [e] at e3
      rw [e2]
      exact e3.symm
end
end E
/-! E13: what comes back of a call; the rules of calls; the law's own def. -/
namespace E
open PySem PySem.Spec PyProof.Rows L2

section
variable {K : PySem.W.Frag} {mg : Str → Option Value} {W : WX} {w w' w₂ w0 w1 : Wd} {s s' s₂ s0 s1 : S} {H H' H₂ H0 H1 : Hp} {σ σ' σ0 : St} {p q m n : Nat} {L : List Pa} {Z Z' : Addr → Prop}
/-- a list that is there becomes a cell's -/
theorem StR.adopt (h : StR K mg w s σ H') {a : Addr} {y0 : Cell} (cy : y0.chg) (hy : CellR K w.Z H' a y0) (hn : ∀ (i : Nat) (x : Cell), s.ce[i]? = some x → x.open?.isSome = true → w.ρ i ≠ a) (ht : ∀ b, InT w s b → b ≠ a) :
    StR K mg (w.at s.ce.length a) (s.push y0) σ H' := by
  have cn : y0.nt = true := by cases y0 <;> first | rfl | exact cy.elim
  have same : ∀ i, i < s.ce.length → (w.at s.ce.length a).ρ i = w.ρ i := fun i hi => if_neg (Nat.ne_of_lt hi)
  have last : (w.at s.ce.length a).ρ s.ce.length = a := if_pos rfl
  refine ⟨fun i c e => ?_, fun i j x y e1 e2 o1 o2 e3 => ?_, fun i r e => ?_, h.sn, h.zt, h.sb, by rw [push_len]; have := h.bs; show s.np + s.sl.length ≤ _; omega, fun i ds' e => ?_, h.sm,
    h.tr_keep (w' := w.at s.ce.length a) .refl (fun i d e => by obtain ⟨e, hi⟩ := push_tr cn e; exact ⟨e, same i hi, rfl⟩) (fun b _ o q => q) (fun _ _ z => z) fun b t j x e o q => by
      rcases push_get e with ⟨hj, e⟩ | ⟨rfl, _⟩
      · exact ⟨j, x, e, o, by rw [← same j hj]; exact q⟩
      · rw [last] at q; exact absurd q.symm (ht b t)⟩
  · rcases push_get e with ⟨hi, e'⟩ | ⟨rfl, rfl⟩
    · rw [same i hi]
      exact h.cl i c e'
    · rw [last]
      exact hy
  · rcases push_get e1 with ⟨hi, e1'⟩ | ⟨rfl, _⟩
    · rcases push_get e2 with ⟨hj, e2'⟩ | ⟨rfl, _⟩
      · rw [same i hi, same j hj] at e3
        exact h.inj i j _ _ e1' e2' o1 o2 e3
      · rw [same i hi, last] at e3
        exact absurd e3 (hn i _ e1' o1)
    · rcases push_get e2 with ⟨hj, e2'⟩ | ⟨rfl, _⟩
      · rw [same j hj, last] at e3
        exact absurd e3.symm (hn j _ e2' o2)
      · rfl
  · obtain ⟨v, e1, e2⟩ := h.sl i r e
    refine ⟨v, e1, ?_⟩
    cases r with
    | sh d => exact e2
    | ex _ => exact e2
    | own c => exact ⟨by rw [same c e2.2]; exact e2.1, by rw [push_len]; exact Nat.lt_succ_of_lt e2.2⟩
  · rcases push_get e with ⟨_, e'⟩ | ⟨_, z⟩
    · exact h.lb i ds' e'
    · rw [← z] at cy; exact cy.elim
theorem Ext.adopt (e : Ext p w s H w' s' H') (hp : p ≤ s'.ce.length) {a : Addr} {y0 : Cell} (cn : y0.nt = true) (hn : H a = none) (hl : ∀ (i : Nat) (ds : List D), s.ce[i]? = some (.lk ds) → i < s'.ce.length) : Ext p w s H (w'.at s'.ce.length a) (s'.push y0) H' where
  z := e.z
  zn := e.zn
  k := e.k
  lz := fun b => lz2 (fun i y q cy eb => by
    rcases push_get q with ⟨hi, q'⟩ | ⟨rfl, _⟩
    · exact e.lz b (.inl ⟨i, y, q', cy, by rw [← eb]; exact (if_neg (Nat.ne_of_lt hi)).symm⟩)
    · have : a = b := by rw [← eb]; exact (if_pos rfl).symm
      exact .inr (this ▸ hn)) fun t => e.lz b (.inr (inT_push cn t))
  pr := fun i hi => (if_neg (Nat.ne_of_lt (Nat.lt_of_lt_of_le hi hp))).trans (e.pr i hi)
  ln := by rw [push_len]; omega
  lk := fun i ds' q => by
    obtain ⟨h1, h2⟩ := e.lk i ds' q
    have hi := hl i ds' q
    exact ⟨(List.getElem?_append_left hi).trans h1, (if_neg (Nat.ne_of_lt hi)).trans h2⟩
  nq := e.nq
  sq := e.sq
/-- a tree that is there becomes a cell's -/
def Wd.atT (w : Wd) (n : Nat) (a : Addr) (fs : List Addr) : Wd := { w with ρ := fun i => if i = n then a else w.ρ i, τ := fun i => if i = n then fs else w.τ i }
theorem StR.adoptT (h : StR K mg w s σ H') {a : Addr} {d : D} {fs : List Addr} (ow : OwnV K mg H' (.ref a) d fs) (nd : fs.Nodup) (nz : ∀ b ∈ fs, ¬ w.Z b) (hn : ∀ b ∈ fs, ∀ (i : Nat) (x : Cell), s.ce[i]? = some x → x.open?.isSome = true → w.ρ i ≠ b) (ht : ∀ b ∈ fs, ¬ InT w s b) :
    StR K mg (w.atT s.ce.length a fs) (s.push (.tr d)) σ H' := by
  have same : ∀ i, i < s.ce.length → (w.atT s.ce.length a fs).ρ i = w.ρ i := fun i hi => if_neg (Nat.ne_of_lt hi)
  have last : (w.atT s.ce.length a fs).ρ s.ce.length = a := if_pos rfl
  have sameT : ∀ i, i < s.ce.length → (w.atT s.ce.length a fs).τ i = w.τ i := fun i hi => if_neg (Nat.ne_of_lt hi)
  have lastT : (w.atT s.ce.length a fs).τ s.ce.length = fs := if_pos rfl
  refine ⟨fun i c e => ?_, fun i j x y e1 e2 o1 o2 e3 => ?_, fun i r e => ?_, h.sn, h.zt, h.sb, by rw [push_len]; have := h.bs; show s.np + s.sl.length ≤ _; omega, fun i ds' e => ?_, h.sm, fun i d' e => ?_⟩
  · rcases push_get e with ⟨hi, e'⟩ | ⟨rfl, rfl⟩
    · rw [same i hi]
      exact h.cl i c e'
    · trivial
  · rcases push_get e1 with ⟨hi, e1'⟩ | ⟨_, z⟩
    · rcases push_get e2 with ⟨hj, e2'⟩ | ⟨_, z⟩
      · rw [same i hi, same j hj] at e3
        exact h.inj i j _ _ e1' e2' o1 o2 e3
      · subst z; cases o2
    · subst z; cases o1
  · obtain ⟨v, e1, e2⟩ := h.sl i r e
    refine ⟨v, e1, ?_⟩
    cases r with
    | sh d => exact e2
    | ex _ => exact e2
    | own c => exact ⟨by rw [same c e2.2]; exact e2.1, by rw [push_len]; exact Nat.lt_succ_of_lt e2.2⟩
  · rcases push_get e with ⟨_, e'⟩ | ⟨_, z⟩
    · exact h.lb i ds' e'
    · cases z
  · have opn : ∀ (j : Nat) (x : Cell), (s.push (.tr d)).ce[j]? = some x → x.open?.isSome = true → s.ce[j]? = some x ∧ j < s.ce.length := fun j x e o => by
      rcases push_get e with ⟨hj, e⟩ | ⟨_, z⟩
      · exact ⟨e, hj⟩
      · subst z; cases o
    rcases push_get e with ⟨hi, e'⟩ | ⟨rfl, z⟩
    · have T := h.tt i d' e'
      refine ⟨by rw [same i hi, sameT i hi]; exact T.ow, by rw [sameT i hi]; exact T.nd, fun b hb => T.nz b (by rwa [sameT i hi] at hb), fun b hb j x ej o q => ?_, fun b hb j e2 ej m => ?_⟩
      · obtain ⟨ej, hj⟩ := opn j x ej o
        rw [same j hj] at q
        exact T.no b (by rwa [sameT i hi] at hb) j x ej o q
      · rw [sameT i hi] at hb
        rcases push_get ej with ⟨hj, ej⟩ | ⟨rfl, _⟩
        · rw [sameT j hj] at m
          exact T.nt b hb j e2 ej m
        · rw [lastT] at m
          exact absurd ⟨i, d', e', hb⟩ (ht b m)
    · cases z
      refine ⟨by rw [last, lastT]; exact ow, by rw [lastT]; exact nd, fun b hb => nz b (by rwa [lastT] at hb), fun b hb j x ej o q => ?_, fun b hb j e2 ej m => ?_⟩
      · obtain ⟨ej, hj⟩ := opn j x ej o
        rw [same j hj] at q
        exact hn b (by rwa [lastT] at hb) j x ej o q
      · rw [lastT] at hb
        rcases push_get ej with ⟨hj, ej⟩ | ⟨rfl, _⟩
        · rw [sameT j hj] at m
          exact absurd ⟨j, e2, ej, m⟩ (ht b hb)
        · rfl
theorem Ext.adoptT (e : Ext p w s H w' s' H') (hp : p ≤ s'.ce.length) {a : Addr} {d : D} {fs : List Addr} (hn : ∀ b ∈ fs, Live w s b ∨ H b = none) (hl : ∀ (i : Nat) (ds : List D), s.ce[i]? = some (.lk ds) → i < s'.ce.length) : Ext p w s H (w'.atT s'.ce.length a fs) (s'.push (.tr d)) H' where
  z := e.z
  zn := e.zn
  k := e.k
  lz := fun b => lz2 (fun i y q cy eb => by
    rcases push_get q with ⟨hi, q'⟩ | ⟨rfl, z⟩
    · exact e.lz b (.inl ⟨i, y, q', cy, by rw [← eb]; exact (if_neg (Nat.ne_of_lt hi)).symm⟩)
    · subst z; exact cy.elim) fun ⟨i, d', q, m⟩ => by
    rcases push_get q with ⟨hi, q'⟩ | ⟨rfl, z⟩
    · exact e.lz b (.inr ⟨i, d', q', by rwa [show (w'.atT s'.ce.length a fs).τ i = w'.τ i from if_neg (Nat.ne_of_lt hi)] at m⟩)
    · exact hn b (by rwa [show (w'.atT s'.ce.length a fs).τ s'.ce.length = fs from if_pos rfl] at m)
  pr := fun i hi => (if_neg (Nat.ne_of_lt (Nat.lt_of_lt_of_le hi hp))).trans (e.pr i hi)
  ln := by rw [push_len]; omega
  lk := fun i ds' q => by
    obtain ⟨h1, h2⟩ := e.lk i ds' q
    have hi := hl i ds' q
    exact ⟨(List.getElem?_append_left hi).trans h1, (if_neg (Nat.ne_of_lt hi)).trans h2⟩
  nq := e.nq
  sq := e.sq
theorem retR_ok {vs : List V} {r r2 : R} {s2 : S} {v : V} (hS : StR K mg w s σ H) (hL : LOk K mg w s H L vs) (h : StR K mg w' s' σ' H') (e : Ext L.length (w.go L) (ent n (psOf L) (ioOf L)) H w' s' H') (hv : RR K mg w' s'.ce.length H' v r) (hq : retR L r s' s = .ok r2 s2) :
    ∃ w2, StR K mg w2 s2 σ H' ∧ Ext s.ce.length w s H w2 s2 H' ∧ RR K mg w2 s2.ce.length H' v r2 := by
  unfold retR at hq
  split at hq
  · rename_i hf
    have hf : ∀ (j c : Nat) (x : Cell), L[j]? = some (.io c x) → (s'.cellAt j).act ∧ (lentIn L = false ∨ atomDs (s'.cellAt j).list = true) := fun j c x q => by
      have := fine_at hf j c x q
      rwa [Nat.zero_add] at this
    have B := back_of hS hL h e fun j c x q => (hf j c x q).1
    obtain ⟨g1, g2, g3⟩ := ret_ok hS hL h B hf
    have ck : ∀ {b : Bool}, (!lentIn L || b) = true → lentIn L = false ∨ b = true := fun {b} h => by
      cases q : lentIn L
      · exact .inl rfl
      · rw [q] at h; exact .inr h
    cases r with
    | sh d =>
      dsimp only at hq
      split at hq
      · rename_i hc
        cases hq
        exact ⟨_, g1, g2, den_ret (ck hc) hv⟩
      · cases hq
    | ex _ => cases hq
    | own c =>
      obtain ⟨rfl, hc⟩ := hv
      dsimp only at hq
      split at hq
      · rename_i hlt
        split at hq
        · rename_i c' x q
          cases hq
          refine ⟨_, g1, g2, ?_, ?_⟩
          · rw [B.ρ c _ _ q]
            rfl
          · rw [wb_len]
            exact (List.getElem?_eq_some_iff.mp (hL.cell q).1).1
        · cases hq
      · rename_i hlt
        have hge : L.length ≤ c := Nat.le_of_not_lt hlt
        cases ec : s'.cellAt c with
        | dead => simp only [ec] at hq; cases hq
        | lk ds => simp only [ec] at hq; cases hq
        | tr d =>
          simp only [ec] at hq
          cases hq
          have qc := S.cellAt_some ec (by simp)
          have T := h.tt c d qc
          have hn := B.newT c d qc
          refine ⟨(w.ret w' L).atT (wb L 0 s' s).ce.length (w'.ρ c) (w'.τ c), g1.adoptT T.ow T.nd (fun b hb z => T.nz b hb z.1) (fun b hb i x ei o ea => ?_) (fun b hb t => hS.t_ne (g3 b t) (hn b hb) rfl), g2.adoptT (by rw [wb_len]; exact Nat.le_refl _) (fun b hb => .inr (hn b hb)) (fun i ds q => by rw [wb_len]; exact (List.getElem?_eq_some_iff.mp q).1), ?_⟩
          · have ea : w.ρ i = b := ea
            have : ∃ x', s.ce[i]? = some x' ∧ x'.open?.isSome = true := by
              rcases wb_get ei with ⟨j, x0, q, rfl⟩ | ⟨_, ei⟩
              · exact ⟨x0, hL.cell q⟩
              · exact ⟨x, ei, o⟩
            obtain ⟨x', b1, b2⟩ := this
            obtain ⟨_, ys, b3⟩ := open_cl hS b1 b2
            rw [ea, hn b hb] at b3
            cases b3
          · refine ⟨?_, ?_⟩
            · have : ((w.ret w' L).atT (wb L 0 s' s).ce.length (w'.ρ c) (w'.τ c)).ρ (wb L 0 s' s).ce.length = w'.ρ c := if_pos rfl
              rw [wb_len] at this ⊢
              rw [this]
            · rw [push_len, wb_len]
              exact Nat.lt_succ_self _
        | fz ds =>
          simp only [ec] at hq
          split at hq
          · cases hq
          · rename_i hl
            cases hq
            obtain ⟨z, xs, l, d⟩ := h.cl c _ (S.cellAt_some ec (by simp))
            have hl : lentIn L = false := by simpa using hl
            exact ⟨_, g1, g2, .lst (.inl ⟨⟨z, nolent hl _⟩, l⟩) (dens_ret (.inl hl) d)⟩
        | lv ds =>
          simp only [ec] at hq
          split at hq
          · rename_i hck
            cases hq
            have qc := S.cellAt_some ec (by simp)
            obtain ⟨z, xs, l, d⟩ := h.cl c _ qc
            have hn := B.new c _ hge qc trivial
            refine ⟨(w.ret w' L).at (wb L 0 s' s).ce.length (w'.ρ c), g1.adopt (y0 := .lv ds) trivial ⟨fun q => z q.1, xs, l, dens_ret (ck hck) d⟩ (fun i x ei o ea => ?_) ?_, g2.adopt (by rw [wb_len]; exact Nat.le_refl _) rfl hn (fun i ds q => by rw [wb_len]; exact (List.getElem?_eq_some_iff.mp q).1), ?_⟩
            · have ea : w.ρ i = w'.ρ c := ea
              have : ∃ x', s.ce[i]? = some x' ∧ x'.open?.isSome = true := by
                rcases wb_get ei with ⟨j, x0, q, rfl⟩ | ⟨_, ei⟩
                · exact ⟨x0, hL.cell q⟩
                · exact ⟨x, ei, o⟩
              obtain ⟨x', b1, b2⟩ := this
              obtain ⟨_, ys, b3⟩ := open_cl hS b1 b2
              rw [ea, hn] at b3
              cases b3
            · exact fun b t => hS.t_ne (g3 b t) hn
            · refine ⟨?_, ?_⟩
              · have : ((w.ret w' L).at (wb L 0 s' s).ce.length (w'.ρ c)).ρ (wb L 0 s' s).ce.length = w'.ρ c := if_pos rfl
                rw [wb_len] at this ⊢
                rw [this]
              · rw [push_len, wb_len]
                exact Nat.lt_succ_self _
          · cases hq
        | dv ds =>
          simp only [ec] at hq
          split at hq
          · rename_i hck
            cases hq
            have qc := S.cellAt_some ec (by simp)
            obtain ⟨z, xs, l, d⟩ := h.cl c _ qc
            have hn := B.new c _ hge qc trivial
            refine ⟨(w.ret w' L).at (wb L 0 s' s).ce.length (w'.ρ c), g1.adopt (y0 := .dv ds) trivial ⟨fun q => z q.1, xs, l, dks_ret (ck hck) d⟩ (fun i x ei o ea => ?_) ?_, g2.adopt (by rw [wb_len]; exact Nat.le_refl _) rfl hn (fun i ds q => by rw [wb_len]; exact (List.getElem?_eq_some_iff.mp q).1), ?_⟩
            · have ea : w.ρ i = w'.ρ c := ea
              have : ∃ x', s.ce[i]? = some x' ∧ x'.open?.isSome = true := by
                rcases wb_get ei with ⟨j, x0, q, rfl⟩ | ⟨_, ei⟩
                · exact ⟨x0, hL.cell q⟩
                · exact ⟨x, ei, o⟩
              obtain ⟨x', b1, b2⟩ := this
              obtain ⟨_, ys, b3⟩ := open_cl hS b1 b2
              rw [ea, hn] at b3
              cases b3
            · exact fun b t => hS.t_ne (g3 b t) hn
            · refine ⟨?_, ?_⟩
              · have : ((w.ret w' L).at (wb L 0 s' s).ce.length (w'.ρ c)).ρ (wb L 0 s' s).ce.length = w'.ρ c := if_pos rfl
                rw [wb_len] at this ⊢
                rw [this]
              · rw [push_len, wb_len]
                exact Nat.lt_succ_self _
          · cases hq
  · cases hq
theorem retR_noexc {r : R} {x : Ex} (h : retR L r s' s = .exc x s₂) : False := by
  unfold retR at h
  (repeat (split at h <;> try cases h))
end

/-! ### the rules -/
/-- what a def's promise asks at its entry -/
def Calls (K : PySem.W.Frag) (mg : Str → Option Value) (n : Nat) (F : FT) (vs : List V) (H : Hp) (Q : VK) : Prop := ∃ (w : Wd) (ps : List R) (io : List Cell), io.length = vs.length ∧ StR K mg w (ent n ps io) (startN n vs) H ∧
  match F ps io with
  | .ok r s' => ∀ w' σ' H' v, StR K mg w' s' σ' H' → Ext io.length w (ent n ps io) H w' s' H' → RR K mg w' s'.ce.length H' v r → Q v H'
  | _ => False
/-- a def of the text keeps its promise -/
structure FnG (P : Program) (w : World) (K : PySem.W.Frag) (mg : Str → Option Value) (base : Heap) (k : Nat) (f : Addr) (fd : FuncData) (ps : List Str) (n : Nat) (F : FT) : Prop where
  run : ∀ (A : Around) (outer : List Env) (z : Shared) (H : Hp) (args : Args) (us : List Value) (vs : List V) (Q : VK), Room k A → A.guards = some [] → Env0 P w K mg base A outer z H → BindsTo z fd args (ps.zip us) → Vals vs us → vs.length = ps.length → Calls K mg n F vs H Q →
    codeAny (model P w) A (.call (.ref f) args) (CR CX0 outer P w H z Q L2.E0) z
theorem calls_of {K : PySem.W.Frag} {mg : Str → Option Value} {w : Wd} {s : S} {σ : St} {H : Hp} {L : List Pa} {vs : List V} {n : Nat} {F : FT} {Q : VK} (hS : StR K mg w s σ H) (hL : LOk K mg w s H L vs) (hn : L.length ≤ n)
    (h : match F (psOf L) (ioOf L) with
      | .ok r s' => match retR L r s' s with
        | .ok r2 s2 => ∀ w2 H2, StR K mg w2 s2 σ H2 → Ext s.ce.length w s H w2 s2 H2 → QV K mg Q w2 r2 s2 H2
        | _ => False
      | _ => False) : Calls K mg n F vs H Q := by
  refine ⟨w.go L, psOf L, ioOf L, by rw [io_len, hL.ln], ent_ok hS hL hn, ?_⟩
  cases eF : F (psOf L) (ioOf L) with
  | bad => rw [eF] at h; exact h
  | exc x s' => rw [eF] at h; exact h
  | ok r s' =>
    rw [eF] at h
    dsimp only at h ⊢
    intro w' σ' H' v a b c
    rw [io_len] at b
    cases er : retR L r s' s with
    | bad => rw [er] at h; exact h.elim
    | exc x s2 => rw [er] at h; exact h.elim
    | ok r2 s2 =>
      rw [er] at h
      obtain ⟨w2, g1, g2, g3⟩ := retR_ok hS hL a b c er
      exact h w2 H' g1 g2 v g3
end E
namespace E
open PySem PySem.Spec PyProof.Rows L2
theorem start_eq {N : List Str} {n : Nat} (h : N.length = n) (vs : List V) : L2.start N vs = startN n vs := by
  subst h
  rfl
/-- THE RULE for a def: its body as a combinator -/
theorem fnG_of {P : Program} {w : World} {K : PySem.W.Frag} {mg : Str → Option Value} {base : Heap} {x qual : Str} {st : Stmt} {dvs : List V} {kws : List (Str × V)} {f : Addr} {fd : FuncData} {N ps : List Str} {k n : Nat} {fb : SS}
    (D : FunD K x qual (defArgs st) (defBody st) (defScope st) dvs kws f fd) (S : FnScope N ps (defScope st)) (hn : N.length = n)
    (body : ∀ (cdv : Value) (A : Around) (outer : List Env) (z : Shared) (H : Hp), Room k (A.deeper (envOfC qual (defScope st) z.heap.objs.size f cdv)) → (A.deeper (envOfC qual (defScope st) z.heap.objs.size f cdv)).guards = some [] →
      SB (cxOf CX0 P w K mg base N qual (defScope st) f cdv A outer z H L2.E0).nox W0 (defBody st) fb) : FnG P w K mg base (k + 1) f fd ps n (runF n fb) := by
  obtain ⟨oc, od, dV, kV, doc, pm, an, cdv, ct, osl, rfl, at_, code, _, _⟩ := D.ex
  refine ⟨fun A outer z H args us vs Q room gd env0 bnd val len call => ?_⟩
  have inK : K.In z.heap := env0.mod.kin.keeps fun b o e => (env0.bs b o e).1
  have nolim : z.heap.NoLimit := env0.mod.nolimit.keeps fun b o e => (env0.bs b o e).1
  have kinds : ∀ y ∈ ps.zip us, (defScope st).names.lookup y.1 = some .local ∨ ((defScope st).names.lookup y.1 = some .cell ∧ ((cellsFrom (z.heap.objs.size + 1) (defScope st).names []).lookup y.1).isSome = true) := by
    rintro ⟨y, u⟩ hy
    have hp := S.par y (List.of_mem_zip hy).1
    exact hp.imp id fun q => ⟨q, PySem.W.cellsFrom_some _ _ _ (.inl q)⟩
  refine codeAny_call_function room.depth (inK _ _ at_) rfl S.co S.gen rfl (PySem.W.codeRec_of inK code) (bnd _ _ _ _ ?_)
  refine wpAny_newFunctionEnv_cells S.kind kinds fun env he z1 entered => ?_
  subst he
  refine ⟨nolim.keeps entered.toInCall.keep, codeAny_func ?_⟩
  have I0 : Inv (cxOf CX0 P w K mg base N qual (defScope st) f cdv A outer z H L2.E0) [] (L2.start N vs) H z1 := inv_start S room.hd env0 len val entered
  have told := (body cdv A outer z H (room.deeper _) gd).nox
  obtain ⟨w0, qs, io, lio, hS, fin⟩ := call
  rw [start_eq hn] at I0
  have wish : tS K mg W0 fb { nx := fun _ H' => Q .non H', rt := Q } (startN n vs) H := by
    refine ⟨w0, ent n qs io, hS, ?_⟩
    have np : (ent n qs io).np = io.length := rfl
    rw [np]
    unfold runF at fin
    cases eb : fb (ent n qs io) with
    | bad => rw [eb] at fin; exact fin
    | exc y s' => rw [eb] at fin; exact fin.elim
    | ok a s' =>
      rw [eb] at fin
      cases a with
      | nx => exact fun w' σ' H' a b => fin w' σ' H' .non a b .non
      | rt r => exact fun w' σ' H' v a b c => fin w' σ' H' v a b c
      | bk => exact fin.elim
      | ct => exact fin.elim
  refine wpAny_mono (told.run [] z1 (startN n vs) H _ I0 wish) (fun fl z2 h => ?_) fun e z2 h => h
  cases fl with
  | ret u =>
    obtain ⟨v, σ', H', J, rv, q⟩ := h
    exact ⟨v, H', J.os, J.bare, J.base, J.hok, rv, q⟩
  | next =>
    obtain ⟨σ', H', J, q⟩ := h
    exact ⟨V.non, H', J.os, J.bare, J.base, J.hok, rfl, q⟩
  | brk => exact h.elim fun _ h => h.elim fun _ h => h.2.elim
  | cont => exact h.elim fun _ h => h.elim fun _ h => h.2.elim

/-! ### which value goes to which parameter -/
def pick {α : Type} (ix : List Nat) (xs : List α) : List α := ix.filterMap fun i => xs[i]?
theorem vals_pick {vs : List V} {us : List Value} (h : Vals vs us) : ∀ ix : List Nat, Vals (pick ix vs) (pick ix us)
  | [] => .nil
  | i :: ix => by
    unfold pick
    cases e : vs[i]? with
    | none =>
      have e2 : us[i]? = none := by
        rw [List.getElem?_eq_none_iff] at e ⊢
        rw [← h.length]; exact e
      rw [List.filterMap_cons_none (by exact e), List.filterMap_cons_none (by exact e2)]
      exact vals_pick h ix
    | some v =>
      obtain ⟨u, e2, r⟩ := h.get e
      rw [List.filterMap_cons_some (by exact e), List.filterMap_cons_some (by exact e2)]
      exact .cons r (vals_pick h ix)
theorem rrs_pick {K : PySem.W.Frag} {mg : Str → Option Value} {w : Wd} {n : Nat} {H : Hp} {vs : List V} {rs : List R} (h : RRs K mg w n H vs rs) : ∀ ix : List Nat, RRs K mg w n H (pick ix vs) (pick ix rs)
  | [] => .nil
  | i :: ix => by
    unfold pick
    cases e : rs[i]? with
    | none =>
      have e2 : vs[i]? = none := by
        rw [List.getElem?_eq_none_iff] at e ⊢
        rw [h.length]; exact e
      rw [List.filterMap_cons_none (by exact e2), List.filterMap_cons_none (by exact e)]
      exact rrs_pick h ix
    | some r =>
      obtain ⟨v, e2, q⟩ := h.get e
      rw [List.filterMap_cons_some (by exact e2), List.filterMap_cons_some (by exact e)]
      exact .cons q (rrs_pick h ix)
/-- the defaults that stand in a text -/
def dflV : D → Option V
  | .none => some .non
  | .bool b => some (.bl b)
  | .int i => some (.int i)
  | .str x => some (.str x)
  | _ => none
theorem dflV_ok {K : PySem.W.Frag} {Z : Addr → Prop} {H : Hp} {d : D} {v : V} (h : dflV d = some v) : Den K Z H v d := by
  cases d <;> cases h <;> constructor
theorem dflVs_ok {K : PySem.W.Frag} {mg : Str → Option Value} {w : Wd} {n : Nat} {H : Hp} : ∀ {ds : List D} {vs : List V}, ds.mapM dflV = some vs → RRs K mg w n H vs (ds.map R.sh)
  | [], vs, h => by
    have : vs = [] := by simpa using h.symm
    subst this
    exact .nil
  | d :: ds, vs, h => by
    rw [List.mapM_cons] at h
    cases e1 : dflV d with
    | none => rw [e1] at h; cases h
    | some v =>
      rw [e1] at h
      cases e2 : ds.mapM dflV with
      | none => rw [e2] at h; cases h
      | some us =>
        rw [e2] at h
        have : v :: us = vs := Option.some.inj h
        subst this
        exact .cons (dflV_ok e1) (dflVs_ok e2)
/-- m values are written and the keywords ks; ds are the values of the defaults -/
def BN (K : PySem.W.Frag) (fd : FuncData) (ps : List Str) (m : Nat) (ks : List Str) (ix : List Nat) (ds : List Value) : Prop := ∀ (z : Shared) (us ws : List Value), K.In z.heap → us.length = m → ws.length = ks.length → BindsTo z fd ⟨us, ks.zip ws⟩ (ps.zip (pick ix (us ++ ws ++ ds)))
theorem bn0 {K : PySem.W.Frag} {x qual : Str} {params : Arguments} {body : List Stmt} {scope : Scope} {kws : List (Str × V)} {f : Addr} {fd : FuncData} {ps ks : List Str} {m : Nat} {ix : List Nat} (D : FunD K x qual params body scope [] kws f fd)
    (h : ∀ (kV doc pm : Value) (an : Option Addr) (cdv ct : Value) (us ws : List Value), us.length = m → ws.length = ks.length → bindArgs (PySem.W.fnOf x qual params body scope .none kV doc pm an cdv ct) ⟨us, ks.zip ws⟩ = pure (ps.zip (pick ix (us ++ ws ++ [])))) : BN K fd ps m ks ix [] := by
  obtain ⟨oc, od, dV, kV, doc, pm, an, cdv, ct, osl, rfl, at_, code, hD, _⟩ := D.ex
  rcases hD with ⟨_, rfl⟩ | ⟨e, _⟩
  · exact fun z us ws _ l1 l2 => .of_eq (h kV doc pm an cdv ct us ws l1 l2)
  · exact absurd rfl e
theorem bn1 {K : PySem.W.Frag} {x qual : Str} {params : Arguments} {body : List Stmt} {scope : Scope} {dvs : List V} {kws : List (Str × V)} {f : Addr} {fd : FuncData} {ps ks : List Str} {m : Nat} {ix : List Nat} (D : FunD K x qual params body scope dvs kws f fd) (hd : dvs ≠ [])
    (h : ∀ (T : Addr) (kV doc pm : Value) (an : Option Addr) (cdv ct : Value) (us ws its : List Value), us.length = m → ws.length = ks.length → its.length = dvs.length →
      ∃ k, bindArgs (PySem.W.fnOf x qual params body scope (.ref T) kV doc pm an cdv ct) ⟨us, ks.zip ws⟩ = seqItems? (.ref T) >>= k ∧ k (some its.toArray) = pure (ps.zip (pick ix (us ++ ws ++ its)))) : ∃ ds, Vals dvs ds ∧ BN K fd ps m ks ix ds := by
  obtain ⟨oc, od, dV, kV, doc, pm, an, cdv, ct, osl, rfl, at_, code, hD, _⟩ := D.ex
  rcases hD with ⟨e, _⟩ | ⟨_, T, o, its, j, rfl, lT, oT, rT⟩
  · exact absurd e hd
  · refine ⟨its, rT, fun z us ws X l1 l2 => BindsTo.of_looks fun M => ?_⟩
    obtain ⟨k, e1, e2⟩ := h T kV doc pm an cdv ct us ws its l1 l2 rT.length.symm
    rw [e1]
    exact looks_items X lT oT (.of_pure e2)

/-! ### calls -/
/-- f(e, .., k = v, ..) -/
def callF (md : List Bool) (F : FT) (m q : Nat) (ix : List Nat) (ds : List D) (fa fk : AS) : ES := fun s => (fa s).bind fun rs s1 => (fk s1).bind fun ks s2 => if rs.length = m ∧ ks.length = q then callD md F (pick ix (rs ++ ks ++ ds.map R.sh)) s2 else .bad
section
variable {X : Cx} {W : WX} {x : Str} {k m n : Nat} {f : Addr} {fd : FuncData} {ps ks : List Str} {F : FT} {ix : List Nat} {ds : List D} {dvs : List V} {dus : List Value} {md : List Bool} {fa fk : AS} {e : Expr} {es : List Expr} {kws : List Keyword} {p pos : Pos}
theorem run_g {pins : List (Addr × Obj)} {σ : St} {H : Hp} {z : Shared} {Q : VK} {us : List Value} {vs : List V} {args : List (Str × Value)} {us0 : List Value} (G : FnG X.prog X.w X.K X.mg X.base k f fd ps n F) (hr : Room k X.A) (hg : X.A.guards = some []) (I : Inv X pins σ H z) (r : Vals vs us) (hl : vs.length = ps.length)
    (hb : BindsTo z fd ⟨us0, args⟩ (ps.zip us)) (h : Calls X.K X.mg n F vs H Q) : wpAny (model X.prog X.w) X.A (call (.ref f) us0 args) (EP X pins σ Q) X.xe z := by
  refine wpAny_call (codeAny_mono (G.run X.A X.stack z H ⟨us0, args⟩ us vs Q hr hg I.env0 hb r hl h) fun res z' hq => ?_)
  cases res with
  | error e => exact hq.elim
  | ok fl =>
    cases fl with
    | ret u => exact I.after hq
    | _ => exact hq.elim
def SK (X : Cx) (W : WX) (kws : List Keyword) (f : AS) : Prop := PK X kws (tA X.K X.mg W f)
/-- the wishes behind the values -/
theorem call_at {σ : St} {H : Hp} {Q : VK} (hd : ds.mapM dflV = some dvs) (hz : ps.length ≤ n) (h : tE X.K X.mg W (callF md F m ks.length ix ds fa fk) σ H Q) :
    tA X.K X.mg W fa σ H fun vs H1 => tA X.K X.mg W fk σ H1 fun ws H2 => vs.length = m ∧ ws.length = ks.length ∧ ((pick ix (vs ++ ws ++ dvs)).length = ps.length → Calls X.K X.mg n F (pick ix (vs ++ ws ++ dvs)) H2 Q) := by
  obtain ⟨w, s, hS, h⟩ := h
  unfold callF at h
  refine ⟨w, s, hS, Post.mono (Post.split h) fun w1 rs s1 H1 _ _ ⟨hS1, e1, h1⟩ vs hvs => ?_⟩
  replace h1 := h1 s1.ce.length e1.ln
  refine ⟨w1, s1, hS1, Post.mono (Post.split h1) fun w2 zs s2 H2 _ _ ⟨hS2, e2, h2⟩ ws hws => ?_⟩
  replace h2 := h2 s2.ce.length e2.ln
  split at h2
  · rename_i hlen
    obtain ⟨l1, l2⟩ := hlen
    have hvs2 := RRs.stay hS1 e2 (Nat.le_refl _) hvs
    have all := rrs_pick ((hvs2.append hws).append (dflVs_ok hd)) ix
    refine ⟨hvs.length.trans l1, hws.length.trans l2, fun hps => ?_⟩
    unfold callD at h2
    split at h2
    · rename_i L eL
      split at h2
      · rename_i ha
        have hL := lok_of hS2 all eL ha
        refine calls_of hS2 hL (by rw [hL.ln, hps]; exact hz) ?_
        cases eF : F (psOf L) (ioOf L) with
        | bad => rw [eF] at h2; exact h2.elim
        | exc y s' => rw [eF] at h2; exact h2.elim
        | ok r s' =>
          rw [eF] at h2
          dsimp only at h2 ⊢
          cases er : retR L r s' s2 with
          | bad => rw [er] at h2; exact h2.elim
          | exc y s3 => exact (retR_noexc er).elim
          | ok r2 s3 =>
            rw [er] at h2
            exact h2
      · exact h2.elim
    · exact h2.elim
  · exact h2.elim
theorem pick_all {α : Type} {xs : List α} : ∀ {ix : List Nat}, (∀ i ∈ ix, i < xs.length) → (pick ix xs).length = ix.length
  | [], _ => rfl
  | i :: ix, h => by
    have hi := h i List.mem_cons_self
    have ih := pick_all (ix := ix) (xs := xs) fun j hj => h j (List.mem_cons_of_mem _ hj)
    unfold pick at ih ⊢
    rw [List.filterMap_cons_some (by exact List.getElem?_eq_getElem hi), List.length_cons, List.length_cons, ih]
/-- what the callee asks -/
structure Callee (X : Cx) (x : Str) (k : Nat) (f : Addr) (fd : FuncData) (ps ks : List Str) (n m : Nat) (F : FT) (ix : List Nat) (ds : List D) (dvs : List V) (dus : List Value) : Prop where
  fn : FnG X.prog X.w X.K X.mg X.base k f fd ps n F
  room : Room k X.A
  gd : X.A.guards = some []
  mg : X.mg x = some (.ref f)
  kp : PySem.W.keepIn X.K (.ref f) = true
  bn : BN X.K fd ps m ks ix dus
  dv : Vals dvs dus
  dd : ds.mapM dflV = some dvs
  np : ps.length ≤ n
  il : ix.length = ps.length
  ib : ∀ i ∈ ix, i < m + ks.length + dvs.length
theorem call_run {pins : List (Addr × Obj)} {σ : St} {H2 : Hp} {z : Shared} {Q : VK} {us us2 : List Value} {vs ws : List V} (C : Callee X x k f fd ps ks n m F ix ds dvs dus) (I : Inv X pins σ H2 z) (r : Vals vs us) (r2 : Vals ws us2) (l1 : vs.length = m) (l2 : ws.length = ks.length)
    (h : (pick ix (vs ++ ws ++ dvs)).length = ps.length → Calls X.K X.mg n F (pick ix (vs ++ ws ++ dvs)) H2 Q) : wpAny (model X.prog X.w) X.A (call (.ref f) us (ks.zip us2)) (EP X pins σ Q) X.xe z := by
  have hl : (pick ix (vs ++ ws ++ dvs)).length = ps.length := by
    rw [pick_all (fun i hi => by have := C.ib i hi; simp only [List.length_append, l1, l2]; exact this), C.il]
  exact run_g C.fn C.room C.gd I (vals_pick ((r.append r2).append C.dv) ix) hl (C.bn z us us2 I.kIn (r.length.symm.trans l1) (r2.length.symm.trans l2)) (h hl)
theorem se_call (C : Callee X x k f fd ps [] n m F ix ds dvs dus) (hg : Gl X x) (ha : SA X W (e :: es) fa)
    (hdb : (x == ("__debug__" : Str)) = false := by decide) (he : starEach (e :: es) X.env = (false, eval e X.env) :: starEach es X.env := by rfl) (hpl : (backTo pos (starEach es X.env)).any (·.1) = false := by rfl) :
    SE X W (.Call (.Name x p) (e :: es) [] pos) (callF md F m 0 ix ds fa nilA) := by
  refine ⟨fun pins z σ H Q I h => ?_⟩
  refine wpAny_Call_Name_kw (ld_glob I hg C.mg ?_ hdb)
  refine PySem.W.callWith_K (h₀ := X.base) I.ok.mod.kin C.kp (thn (ha.run pos pins z σ H _ I (call_at (ks := []) C.dd C.np h)) fun us z1 ⟨vs, H1, I1, r, q⟩ => ⟨I1.kIn, ?_⟩) he hpl
  obtain ⟨w, s, hS, q⟩ := q
  obtain ⟨l1, l2, q⟩ := q w H1 hS (Ext.refl (Nat.le_refl _)) [] .nil
  exact call_run (us2 := []) C I1 r .nil l1 l2 q
theorem se_call0 (C : Callee X x k f fd ps [] n 0 F ix ds dvs dus) (hg : Gl X x) (hdb : (x == ("__debug__" : Str)) = false := by decide) :
    SE X W (.Call (.Name x p) [] [] pos) (callF md F 0 0 ix ds nilA nilA) := by
  refine ⟨fun pins z σ H Q I h => ?_⟩
  refine wpAny_Call_Name_kw (ld_glob I hg C.mg ?_ hdb)
  obtain ⟨w, s, hS, q⟩ := call_at (ks := []) C.dd C.np h
  obtain ⟨w, s, hS, q⟩ := q w H hS (Ext.refl (Nat.le_refl _)) [] .nil
  obtain ⟨l1, l2, q⟩ := q w H hS (Ext.refl (Nat.le_refl _)) [] .nil
  exact PySem.W.callWith_K0 I.kIn C.kp (call_run (us := []) (us2 := []) C I .nil .nil l1 l2 q)
theorem se_callK0 (C : Callee X x k f fd ps ks n 0 F ix ds dvs dus) (hg : Gl X x) (hk : SK X W kws fk) (hall : (backToKw pos (keywordEach kws X.env)).all (·.1.isSome) = true := by rfl) (hks : (backToKw pos (keywordEach kws X.env)).filterMap (·.1) = ks := by rfl)
    (hdb : (x == ("__debug__" : Str)) = false := by decide)
    (hpl : ((backTo pos (starEach [] X.env)).any (·.1) || (backToKw pos (keywordEach kws X.env)).any (·.1.isNone)) = false := by rfl) :
    SE X W (.Call (.Name x p) [] kws pos) (callF md F 0 ks.length ix ds nilA fk) := by
  refine ⟨fun pins z σ H Q I h => ?_⟩
  refine wpAny_Call_Name_kw (ld_glob I hg C.mg ?_ hdb)
  obtain ⟨w, s, hS, q⟩ := call_at C.dd C.np h
  have q := q w H hS (Ext.refl (Nat.le_refl _)) [] .nil
  refine PySem.W.callWith_KW0 (h₀ := X.base) I.ok.mod.kin C.kp hall (thn (hk.run pos pins z σ H _ I q) fun us2 z2 ⟨ws, H2, I2, r2, l1, l2, q2⟩ => ⟨I2.kIn, ?_⟩) hpl
  rw [hks]
  exact call_run (us := []) C I2 .nil r2 l1 l2 q2
theorem sk_nil : SK X W [] nilA := ⟨fun pos pins s σ H Q I ⟨w, s', hS, h⟩ => (pk_nil (X := X)).run pos pins s σ H Q I (h w H hS (Ext.refl (Nat.le_refl _)) [] .nil)⟩
end
end E
/-! E14: the law's own def, from the script. -/
namespace E
open PySem PySem.Spec PyProof.Rows L2

/-- what the law's def has to answer -/
def Keeps (F : FT) (m : Nat) : Prop := ∀ ns : List Int, ns.length ≤ m → ∃ s', F [.sh (.list (ns.map PyData.int))] [.dead] = .ok (.sh (.bool true)) s'
theorem calls_law {K : PySem.W.Frag} {mg : Str → Option Value} {n : Nat} {F : FT} {H : Hp} {a : Addr} {ns : List Int} (hn : 1 ≤ n) (hl : LstZ K (fun b => b = sysModules) H a (ns.map V.int)) (sm : SM K H) (hF : ∃ s', F [.sh (.list (ns.map PyData.int))] [.dead] = .ok (.sh (.bool true)) s') : Calls K mg n F [.ref a] H fun v _ => v = .bl true := by
  obtain ⟨s', hF⟩ := hF
  have d0 : Den K (fun b => b = sysModules) H (.ref a) (.list (ns.map PyData.int)) := .lst hl (Dens.map_int ns)
  have hS : StR K mg ⟨fun b => b = sysModules, fun _ => 0, fun _ => []⟩ ⟨[], [], 0⟩ [] H := ⟨fun i c e => by simp at e, fun i j x y e => by simp at e, fun i r e => by simp at e, Nat.le_refl _, fun b hb => hb ▸ (let ⟨u, q⟩ := sm.1; ⟨_, q⟩), fun i c e => by simp at e, Nat.le_refl _, fun i ds e => by simp at e, sm, fun i d e => by simp at e⟩
  have hL : LOk K mg ⟨fun b => b = sysModules, fun _ => 0, fun _ => []⟩ ⟨[], [], 0⟩ H [.sh (.list (ns.map PyData.int))] [.ref a] := by
    refine ⟨rfl, fun i pa e => ?_, fun i j c x y e => ?_, fun i j c x ds e => ?_⟩
    · cases i with
      | zero =>
        have : Pa.sh (.list (ns.map PyData.int)) = pa := by simpa using e
        subst this
        exact ⟨_, rfl, d0⟩
      | succ i => simp at e
    · cases i with
      | zero => simp at e
      | succ i => simp at e
    · cases i with
      | zero => simp at e
      | succ i => simp at e
  refine ⟨_, psOf [.sh (.list (ns.map PyData.int))], ioOf [.sh (.list (ns.map PyData.int))], rfl, ent_ok hS hL hn, ?_⟩
  have e1 : psOf [.sh (.list (ns.map PyData.int))] = [.sh (.list (ns.map PyData.int))] := rfl
  have e2 : ioOf [Pa.sh (.list (ns.map PyData.int))] = [.dead] := rfl
  rw [e1, e2, hF]
  intro w' σ' H' v _ _ hv
  cases (show Den K w'.Z H' v (.bool true) from hv)
  rfl
/-- of the script's object the abstract heap knows at most itself -/
structure Alone (K : PySem.W.Frag) (h : Heap) (a : Addr) (H : Hp) : Prop where
  at_ : ∀ b, H b ≠ none → b = a ∨ b = sysModules
  sy : ∃ o, H sysModules = some (.frz o (.ext fun _ => True)) ∧ h.get? sysModules = some o ∧ K.lookup sysModules = none
  ne : a ≠ sysModules
  frz : H a = none ∨ ∃ (o : Obj) (xs : List V), H a = some (.frz o (.lst xs)) ∧ h.get? a = some o
  kn : H a ≠ none → K.lookup a = none
theorem law_run {P : Program} {w : World} {K : PySem.W.Frag} {mg mb : Str → Option Value} {k n m : Nat} {fa a : Addr} {fd : FuncData} {x : Str} {F : FT} {z : Shared} {vs : List Value} {ns : List Int}
    (inK : K.In z.heap) (gl : z.heap.Ns mainGlobals mg) (bl : z.heap.Ns builtinsNs mb) (bb : ∀ y : Str, y ≠ "__name__" → mb y = bootBuiltins y) (lim : z.heap.NoLimit) (bare : z.gens = #[])
    (at_ : z.heap.get? a = some { cls := .type "list", data := .seq vs.toArray }) (hint : IntsAre vs ns) (small : ns.length ≤ sizeLine) (room : Room k callerA) (hn : 1 ≤ n) (hsy : ∃ mm, z.heap.Ns sysModules mm) (ksy : K.lookup sysModules = none)
    (G : ∀ base : Heap, K.In base → base.Ns mainGlobals mg → FnG P w K mg base k fa fd [x] n F) (bind : ∀ (y : Shared) (u : Value), BindsTo y fd ⟨[u], []⟩ [(x, u)]) (hF : ∃ s', F [.sh (.list (ns.map PyData.int))] [.dead] = .ok (.sh (.bool true)) s') :
    codeAny (model P w) callerA (.call (.ref fa) ⟨[.ref a], []⟩) (fun r y => r = .ok (.ret (.bool true)) ∧ OldK z.heap y.heap ∧ y.os = z.os ∧ AllBare y.gens) z := by
  have vals := vals_ints hint
  have run : ∀ H : Hp, Alone K z.heap a H → LstZ K (fun b => b = sysModules) H a (ns.map V.int) → HOk P w H z.heap → codeAny (model P w) callerA (.call (.ref fa) ⟨[.ref a], []⟩) (fun r y => r = .ok (.ret (.bool true)) ∧ OldK z.heap y.heap ∧ y.os = z.os ∧ AllBare y.gens) z := by
    intro H al lz hok
    have only : ∀ {b : Addr} {u : HO}, H b = some u → b = a ∨ b = sysModules := fun {b u} q => al.at_ b (by rw [q]; simp)
    -- what lies in the heap and is not the script
    have rest : ∀ {b : Addr} {o : Obj}, z.heap.get? b = some o → (b = a → H b = none) → b ≠ sysModules → (hidT z.heap H).get? b = some o := fun {b o} e h hs => hidT_get e (by
      cases q : H b with
      | none => rfl
      | some u =>
        rcases only q with y | y
        · rw [h y] at q; cases q
        · exact absurd y hs)
    have spaces : ∀ {b : Addr} {f : Str → Option Value}, z.heap.Ns b f → b ≠ sysModules → (hidT z.heap H).Ns b f := fun {b f} ⟨o, es, ep, e, d, r⟩ hs => ⟨o, es, ep, rest e (fun q => by
      subst q
      rw [at_] at e
      cases e
      have d' : Data.seq vs.toArray _ = Data.dict es ep := d
      cases d') hs, d, r⟩
    have inB : K.In (hidT z.heap H) := fun b o e => rest (inK b o e) (fun q => by
      subst q
      cases hb : H b with
      | none => rfl
      | some u => rw [al.kn (by rw [hb]; simp)] at e; cases e) (fun q => by subst q; rw [ksy] at e; cases e)
    have md : Mod K mg (hidT z.heap H) := ⟨inB, spaces gl (by decide), ⟨mb, spaces bl (by decide), bb⟩, let ⟨mc, h1, h2⟩ := lim; ⟨mc, spaces h1 (by decide), h2⟩⟩
    have sm : SM K H := by
      obtain ⟨o, q, _, y⟩ := al.sy
      exact ⟨⟨(o, fun _ => True), q⟩, y⟩
    have env0 : Env0 P w K mg (hidT z.heap H) callerA [] z H := ⟨rfl, md, fun b o e => of_hidT e, Nat.le_of_eq (hidT_size _ _), trivial, fun b hb => (List.not_mem_nil hb).elim, hok, .of_eq bare⟩
    refine codeAny_mono ((G _ inB (spaces gl (by decide))).run callerA [] z H ⟨[.ref a], []⟩ [.ref a] [.ref a] _ room rfl env0 (bind z (.ref a)) (.cons rfl .nil) rfl (calls_law hn lz sm hF)) fun r y h => ?_
    cases r with
    | error e => exact h.elim
    | ok fl =>
      cases fl with
      | ret u =>
        obtain ⟨v, H', os, gens, un, hok', rv, q⟩ := h
        have q : v = .bl true := q
        subst q
        obtain rfl : u = Value.bool true := rv
        refine ⟨rfl, OldK.of_keep fun b o e => ?_, os, gens⟩
        cases hb : H b with
        | none => exact un.keep b o e hb (List.not_mem_nil) (List.not_mem_nil)
        | some u =>
          rcases only hb with this | this
          · subst this
            rcases al.frz with q | ⟨o', xs, q, e'⟩
            · rw [hb] at q; cases q
            · rw [e] at e'
              cases e'
              exact (hok' b _ (un.frzs b o _ q)).1
          · subst this
            obtain ⟨o', q, e', _⟩ := al.sy
            rw [e] at e'
            cases e'
            exact (hok' _ _ (un.frzs _ o _ q)).1
      | _ => exact h.elim
  obtain ⟨_, oS, esS, epS, eS, dS, _⟩ := hsy
  have neS : a ≠ sysModules := fun q => by
    rw [q, eS] at at_
    cases at_
    cases dS
  cases hk : K.lookup a with
  | some o =>
    have e := inK a o hk
    rw [at_] at e
    cases e
    have self : (fun b => if b = sysModules then some (HO.frz oS (.ext fun _ => True)) else none : Hp) sysModules = some (.frz oS (.ext fun _ => True)) := if_pos rfl
    have other : ∀ b, b ≠ sysModules → (fun b => if b = sysModules then some (HO.frz oS (.ext fun _ => True)) else none : Hp) b = none := fun b hb => if_neg hb
    refine run (fun b => if b = sysModules then some (HO.frz oS (.ext fun _ => True)) else none) ⟨fun b q => .inr (Decidable.byContradiction fun hb => q (other b hb)), ⟨oS, self, eS, ksy⟩, neS, .inl (other a neS), fun q => (q (other a neS)).elim⟩ (.inr (.inr ⟨rfl, vs, _, hk, by rw [List.length_map]; exact small, vals⟩)) fun b u q => ?_
    by_cases hb : b = sysModules
    · subst hb
      have q := self.symm.trans q
      cases q
      exact ⟨eS, trivial, ⟨_, eS⟩, fun _ _ _ _ => trivial⟩
    · have q := (other b hb).symm.trans q
      cases q
  | none =>
    have self : (fun b => if b = a then some (HO.frz { cls := .type "list", data := .seq vs.toArray } (.lst (ns.map V.int))) else if b = sysModules then some (HO.frz oS (.ext fun _ => True)) else none : Hp) a = some (.frz { cls := .type "list", data := .seq vs.toArray } (.lst (ns.map V.int))) := if_pos rfl
    have selfS : (fun b => if b = a then some (HO.frz { cls := .type "list", data := .seq vs.toArray } (.lst (ns.map V.int))) else if b = sysModules then some (HO.frz oS (.ext fun _ => True)) else none : Hp) sysModules = some (.frz oS (.ext fun _ => True)) := (if_neg (Ne.symm neS)).trans (if_pos rfl)
    have other : ∀ b, b ≠ a → b ≠ sysModules → (fun b => if b = a then some (HO.frz { cls := .type "list", data := .seq vs.toArray } (.lst (ns.map V.int))) else if b = sysModules then some (HO.frz oS (.ext fun _ => True)) else none : Hp) b = none := fun b hb hs => (if_neg hb).trans (if_neg hs)
    refine run (fun b => if b = a then some (HO.frz { cls := .type "list", data := .seq vs.toArray } (.lst (ns.map V.int))) else if b = sysModules then some (HO.frz oS (.ext fun _ => True)) else none : Hp) ⟨fun b q => ?_, ⟨oS, selfS, eS, ksy⟩, neS, .inr ⟨_, _, self, at_⟩, fun _ => hk⟩ (.inr (.inl ⟨rfl, _, self⟩)) fun b u q => ?_
    · by_cases hb : b = a
      · exact .inl hb
      · exact .inr (Decidable.byContradiction fun hs => q (other b hb hs))
    · by_cases hb : b = a
      · subst hb
        have q := self.symm.trans q
        cases q
        exact ⟨at_, by rw [List.length_map]; exact small, vs, _, vals, at_⟩
      · by_cases hs : b = sysModules
        · subst hs
          have q := selfS.symm.trans q
          cases q
          exact ⟨eS, trivial, ⟨_, eS⟩, fun _ _ _ _ => trivial⟩
        · have q := (other b hb hs).symm.trans q
          cases q
/-- the goal that the head leaves -/
theorem walk_g {l : PySem.W.OpenLaw} {m k n : Nat} {q : Program} {loose : List Str} {XP : (Str → Option Value) → Heap → Prop} {YP : World → Heap → Prop} {d : DefRec} {K : Params → PySem.W.Frag} {x : Str} {F : FT}
    (hm : l.most = some m) (hs : m ≤ sizeLine) (hd : d.params.defaults = []) (room : Room k callerA) (hn : 1 ≤ n) (hY : ∀ (w : World) (h : Heap), YP w h → (K w.params).In h) (himp : importsNone q = true) (hsy : ∀ w : World, (K w.params).lookup sysModules = none)
    (G : ∀ (w : World) (mg : Str → Option Value) (fa : Addr) (h : Heap), (K w.params).In h → h.Ns mainGlobals mg → mg d.name = some (.ref fa) →
      ∃ fd : FuncData, (∀ (y : Shared) (u : Value), BindsTo y fd ⟨[u], []⟩ [(x, u)]) ∧ ∀ base : Heap, (K w.params).In base → base.Ns mainGlobals mg → FnG l.prog w (K w.params) mg base k fa fd [x] n F)
    (hF : Keeps F m) : PySem.W.WalkO q loose XP YP l.row.toRowW d [] (fun f vs => PySem.call f vs) := by
  refine Att.attach_call hm hd fun w z₀ z mg mb fa o pm cd doc a vs ns gr Y _ _ _ hmg at_ hint len bare => ?_
  have inK := hY w _ Y
  obtain ⟨fd, bind, G'⟩ := G w mg fa _ inK gr.T.g hmg
  exact law_run (m := m) inK gr.T.g gr.T.b gr.T.builtins gr.T.nolimit bare at_ hint (Nat.le_trans len hs) room hn (let ⟨mm, y, _⟩ := (gr.T.seer himp).mods; ⟨mm, y⟩) (hsy w) G' bind (hF ns len)
section
variable {X : Cx} {W : WX} {e : Expr} {kws : List Keyword} {f : ES} {fk : AS} {kpos : Pos} {nm : Option Str}
theorem sk_cons (ha : SE X W e f) (hr : SK X W kws fk) : SK X W (⟨nm, e, kpos⟩ :: kws) (consA f fk) := by
  refine ⟨fun pos pins z σ H Q I ⟨w, s, hS, h⟩ => (pk_cons ha hr).run pos pins z σ H Q I ?_⟩
  refine ⟨w, s, hS, Post.mono (Post.split h) fun w1 r1 s1 H1 _ _ ⟨hS1, e1, h1⟩ v hv => ?_⟩
  refine ⟨w1, s1, hS1, Post.mono (Post.split (h1 s1.ce.length e1.ln)) fun w2 rs s2 H2 _ _ ⟨hS2, e2, h2⟩ vs hvs => ?_⟩
  exact h2 s2.ce.length e2.ln w2 H2 hS2 (Ext.refl (Nat.le_refl _)) _ (.cons (RR.stay hS1 e2 (Nat.le_refl _) hv) hvs)
end
end E
/-! E15: short words for printed proofs. -/
namespace E
open PySem PySem.Spec PyProof.Rows L2

/-- a constant of the text's top -/
def Con (K : PySem.W.Frag) (mg : Str → Option Value) (x : Str) (d : D) : Prop := ∃ (v : V) (u : Value), mg x = some u ∧ RelV v u ∧ ∀ Z H, Den K Z H v d
theorem con_int {K : PySem.W.Frag} {mg : Str → Option Value} {x : Str} {i : Int} {t : Tok} (h : mg x = some (.int i t)) : Con K mg x (.int i) := ⟨.int i, _, h, ⟨t, rfl⟩, fun _ _ => .int i⟩
theorem con_str {K : PySem.W.Frag} {mg : Str → Option Value} {x i : Str} {t : Tok} (h : mg x = some (.str i t)) : Con K mg x (.str i) := ⟨.str i, _, h, ⟨t, rfl⟩, fun _ _ => .str i⟩
/-- a def of the text -/
def Own (P : Program) (w : World) (K : PySem.W.Frag) (mg : Str → Option Value) (base : Heap) (x : Str) (st : Stmt) (dvs : List V) (k : Nat) (ps : List Str) (n : Nat) (F : FT) : Prop :=
  ∃ (f : Addr) (fd : FuncData), FnG P w K mg base k f fd ps n F ∧ mg x = some (.ref f) ∧ PySem.W.keepIn K (.ref f) = true ∧ FunD K x x (defArgs st) (defBody st) (defScope st) dvs [] f fd
/-- .. as the top has written it -/
def Def (K : PySem.W.Frag) (mg : Str → Option Value) (x : Str) (st : Stmt) (dvs : List V) : Prop :=
  ∃ (f : Addr) (fd : FuncData), mg x = some (.ref f) ∧ FunD K x x (defArgs st) (defBody st) (defScope st) dvs [] f fd
abbrev Cxt (P : Program) (w : World) (K : PySem.W.Frag) (mg : Str → Option Value) (base : Heap) (N : List Str) (x : Str) (st : Stmt) (f : Addr) (cdv : Value) (A : Around) (outer : List Env) (z : Shared) (H : Hp) : Cx :=
  (cxOf CX0 P w K mg base N x (defScope st) f cdv A outer z H L2.E0).nox
theorem own_of {P : Program} {w : World} {K : PySem.W.Frag} {mg : Str → Option Value} {base : Heap} {x : Str} {st : Stmt} {dvs : List V} {N ps : List Str} {k n : Nat} {fb : SS} (D : Def K mg x st dvs) (S : C8.scC N ps (defScope st) = true) (hn : N.length = n)
    (body : ∀ (f : Addr) (cdv : Value) (A : Around) (outer : List Env) (z : Shared) (H : Hp), Room k (A.deeper (envOfC x (defScope st) z.heap.objs.size f cdv)) → (A.deeper (envOfC x (defScope st) z.heap.objs.size f cdv)).guards = some [] → SB (Cxt P w K mg base N x st f cdv A outer z H) W0 (defBody st) fb) : Own P w K mg base x st dvs (k + 1) ps n (runF n fb) := by
  obtain ⟨f, fd, hm, F⟩ := D
  exact ⟨f, fd, fnG_of F (C8.fnScope_by S) hn fun cdv A outer z H r g => body f cdv A outer z H r g, hm, F.kp, F⟩
section
variable {X : Cx} {W : WX} {x : Str} {k j m n : Nat} {ps ks : List Str} {F : FT} {ix : List Nat} {ds : List D} {dvs : List V} {md : List Bool} {fa fk : AS} {e : Expr} {es : List Expr} {kws : List Keyword} {p pos : Pos} {st : Stmt} {f : ES}
theorem v {i : Nat} (hN : X.N[i]? = some x := by rfl) (hv : Vis X.env.scope x := by first | exact Or.inl rfl | exact Or.inr (Or.inl rfl) | exact Or.inr (Or.inr rfl)) (hd : (x == ("__debug__" : Str)) = false := by decide) (hcd : (x == ("__classdict__" : Str)) = false := by decide) : SE X W (.Name x pos) (varS i) := se_var hN hv hd hcd
theorem se_con {d : D} (h : Con X.K X.mg x d) (hg : Gl X x := by rfl) (hdb : (x == ("__debug__" : Str)) = false := by decide) : SE X W (.Name x pos) (litS d) := by
  obtain ⟨v, u, hm, r, hd⟩ := h
  exact se_glob hg hm r hd hdb
/-- how the arguments of a call bind -/
def Bnd (x : Str) (st : Stmt) (ps ks : List Str) (m : Nat) (ix : List Nat) (dvs : List V) : Prop :=
  (dvs = [] ∧ ∀ (kV doc pm : Value) (an : Option Addr) (cdv ct : Value) (us ws : List Value), us.length = m → ws.length = ks.length → bindArgs (PySem.W.fnOf x x (defArgs st) (defBody st) (defScope st) .none kV doc pm an cdv ct) ⟨us, ks.zip ws⟩ = pure (ps.zip (pick ix (us ++ ws ++ [])))) ∨
  (dvs ≠ [] ∧ ∀ (T : Addr) (kV doc pm : Value) (an : Option Addr) (cdv ct : Value) (us ws its : List Value), us.length = m → ws.length = ks.length → its.length = dvs.length →
      ∃ k, bindArgs (PySem.W.fnOf x x (defArgs st) (defBody st) (defScope st) (.ref T) kV doc pm an cdv ct) ⟨us, ks.zip ws⟩ = seqItems? (.ref T) >>= k ∧ k (some its.toArray) = pure (ps.zip (pick ix (us ++ ws ++ its))))
theorem callee (O : Own X.prog X.w X.K X.mg X.base x st dvs k ps n F) (hb : Bnd x st ps ks m ix dvs) (hr : Room j X.A) (hj : k ≤ j) (gd : X.A.guards = some []) (dd : ds.mapM dflV = some dvs) (np : ps.length ≤ n) (il : ix.length = ps.length) (ib : ∀ i ∈ ix, i < m + ks.length + dvs.length) :
    ∃ f fd dus, Callee X x k f fd ps ks n m F ix ds dvs dus := by
  obtain ⟨f, fd, G, hm, hk, D⟩ := O
  rcases hb with ⟨rfl, h⟩ | ⟨hne, h⟩
  · exact ⟨f, fd, [], G, hr.mono hj, gd, hm, hk, bn0 D h, .nil, dd, np, il, ib⟩
  · obtain ⟨dus, r, b⟩ := bn1 D hne h
    exact ⟨f, fd, dus, G, hr.mono hj, gd, hm, hk, b, r, dd, np, il, ib⟩
theorem se_own (O : Own X.prog X.w X.K X.mg X.base x st dvs k ps n F) (hb : Bnd x st ps [] m ix dvs) (hr : Room j X.A) (gd : X.A.guards = some []) (ha : SA X W (e :: es) fa) (hj : k ≤ j := by decide) (dd : ds.mapM dflV = some dvs := by rfl) (np : ps.length ≤ n := by decide) (il : ix.length = ps.length := by rfl) (ib : ∀ i ∈ ix, i < m + ([] : List Str).length + dvs.length := by decide)
    (hg : Gl X x := by rfl) (hdb : (x == ("__debug__" : Str)) = false := by decide) (he : starEach (e :: es) X.env = (false, eval e X.env) :: starEach es X.env := by rfl) (hpl : (backTo pos (starEach es X.env)).any (·.1) = false := by rfl) :
    SE X W (.Call (.Name x p) (e :: es) [] pos) (callF md F m 0 ix ds fa nilA) := by
  obtain ⟨f, fd, dus, C⟩ := callee O hb hr hj gd dd np il ib
  exact se_call C hg ha hdb he hpl
theorem se_own0 (O : Own X.prog X.w X.K X.mg X.base x st dvs k ps n F) (hb : Bnd x st ps [] 0 ix dvs) (hr : Room j X.A) (gd : X.A.guards = some []) (hj : k ≤ j := by decide) (dd : ds.mapM dflV = some dvs := by rfl) (np : ps.length ≤ n := by decide) (il : ix.length = ps.length := by rfl) (ib : ∀ i ∈ ix, i < 0 + ([] : List Str).length + dvs.length := by decide)
    (hg : Gl X x := by rfl) (hdb : (x == ("__debug__" : Str)) = false := by decide) : SE X W (.Call (.Name x p) [] [] pos) (callF md F 0 0 ix ds nilA nilA) := by
  obtain ⟨f, fd, dus, C⟩ := callee O hb hr hj gd dd np il ib
  exact se_call0 C hg hdb
theorem se_ownK0 (O : Own X.prog X.w X.K X.mg X.base x st dvs k ps n F) (hb : Bnd x st ps ks 0 ix dvs) (hr : Room j X.A) (gd : X.A.guards = some []) (hk : SK X W kws fk) (hj : k ≤ j := by decide) (dd : ds.mapM dflV = some dvs := by rfl) (np : ps.length ≤ n := by decide) (il : ix.length = ps.length := by rfl) (ib : ∀ i ∈ ix, i < 0 + ks.length + dvs.length := by decide)
    (hg : Gl X x := by rfl) (hall : (backToKw pos (keywordEach kws X.env)).all (·.1.isSome) = true := by rfl) (hks : (backToKw pos (keywordEach kws X.env)).filterMap (·.1) = ks := by rfl)
    (hdb : (x == ("__debug__" : Str)) = false := by decide)
    (hpl : ((backTo pos (starEach [] X.env)).any (·.1) || (backToKw pos (keywordEach kws X.env)).any (·.1.isNone)) = false := by rfl) :
    SE X W (.Call (.Name x p) [] kws pos) (callF md F 0 ks.length ix ds nilA fk) := by
  obtain ⟨f, fd, dus, C⟩ := callee O hb hr hj gd dd np il ib
  exact se_callK0 C hg hk hall hks hdb hpl
/-! targets -/
theorem t_nm {i : Nat} (hN : X.N.Nodup) (hi : X.N[i]? = some x := by rfl) (hx : Loc X.env.scope x := by first | exact .inl rfl | exact .inr rfl) (hf : X.fn x = true ∨ X.env.scope.names.lookup x = some .local := by first | exact .inl rfl | exact .inr rfl) : PG X (.Name x pos) (gT X.K (.nm i)) := by
  unfold gT
  exact pg_name hN hi hx hf
theorem ts_nil : PGs X [] (gTs X.K []) := by
  unfold gTs
  exact pgs_nil
theorem ts_cons {t : Tg} {ts : List Tg} (h1 : PG X e (gT X.K t)) (h2 : PGs X es (gTs X.K ts)) (hs : (assignEach (e :: es) X.env).map (·.2) = assign e X.env :: (assignEach es X.env).map (·.2) := by rfl) : PGs X (e :: es) (gTs X.K (t :: ts)) := by
  unfold gTs
  exact pgs_cons h1 h2 hs
theorem t_tp {q : Nat} {ts : List Tg} (hc : X.calm = true) (h : PGs X es (gTs X.K ts)) (hn : (assignEach es X.env).length = ts.length := by rfl) (hst : (assignEach es X.env).findIdx? (·.1) = none := by rfl) : PG X (.Tuple es q pos) (gT X.K (.tp ts)) := by
  unfold gT
  exact pg_tup hc h hn hst
theorem units65 {A : Around} (r : Room k A) : A.units + 65 < cLine := by have := r.un; omega
theorem passN : PassesOwn (model X.prog X.w) X.A X.env fun _ _ => False := PassesOwn.never
end
theorem tup_k {K : PySem.W.Frag} {H : Hp} {a : Addr} {its : List Value} {n : Nat} {xs : List V} (h : K.lookup a = some { cls := .type "tuple", data := .seq its.toArray n }) (hz : its.length ≤ sizeLine) (r : Vals xs its) : SqT K H a xs := .inr ⟨_, its.toArray, n, h, rfl, rfl, by rw [List.size_toArray]; exact hz, by simpa using r⟩
/-- the built-ins whose names the text leaves alone -/
def Free (mg : Str → Option Value) (xs : List Str) : Prop := ∀ x ∈ xs, mg x = none
end E
namespace E
open PySem PySem.Spec PyProof.Rows L2
/-- a list that is not changed any more is fixed before it is given on -/
def frzF (f : ES) : ES := fun s => (f s).bind fun r s1 => match s1.frz r with
  | some (d, s2) => .ok (.sh d) s2
  | none => .bad
/-! ### four names and more at once -/
def asgs : List Nat → List R → S → Res Unit
  | [], [], s => .ok () s
  | i :: is, r :: rs, s => if rs.all (waits i s) = true then (asg0 i r s).bind fun _ s2 => asgs is rs s2 else .bad
  | _, _, _ => .bad
def parNS (is : List Nat) (t : AS) : SS := fun s => (t s).bind fun rs s1 => if rs.length ≤ sizeLine then (asgs is rs s1).bind fun _ s2 => doneS s2 else .bad
section
variable {K : PySem.W.Frag} {mg : Str → Option Value} {w w' : Wd} {s s' : S} {H H' : Hp} {σ : St}
theorem RRs.keep {v0 : V} {r0 : R} {i : Nat} (hS : StR K mg w s σ H) {w' : Wd} {s' : S} (keep : ∀ (v : V) (m : R), RR K mg w s.ce.length H v m → waits i s m = true → RR K mg w' s'.ce.length H v m) : ∀ {vs : List V} {rs : List R}, RRs K mg w s.ce.length H vs rs → rs.all (waits i s) = true → RRs K mg w' s'.ce.length H vs rs
  | _, _, .nil, _ => .nil
  | _, _, .cons a b, h => by
    rw [List.all_cons, Bool.and_eq_true] at h
    exact .cons (keep _ _ a h.1) (RRs.keep (v0 := v0) (r0 := r0) hS keep b h.2)
end
/-! ### is, is not of bools -/
def isBR (neg : Bool) : R → R → S → Res R := fun r1 r2 s => match s.look r1, s.look r2 with
  | some (.bool a), some (.bool b) => .ok (.sh (.bool (if neg then !decide (a = b) else decide (a = b)))) s
  | _, _ => .bad
section
variable {X : Cx} {W : WX}
end
end E
/-! EG: list(range(..)), xs[::-1]. -/
namespace E
open PySem PySem.Spec PyProof.Rows L2
/-- list(range(j)) -/
noncomputable def lrg1 (f : ES) : ES := fun s => (f s).bind fun r s1 => match s1.int r with
  | some j => if small62 j ∧ j.toNat ≤ 2 ^ 24 then .ok (.own s1.ce.length) (s1.push (.lv (rngD 0 1 j.toNat))) else .bad
  | none => .bad
/-- list(range(i, j)) -/
noncomputable def lrg2 (f g : ES) : ES := fun s => (f s).bind fun r s1 => (g s1).bind fun r' s2 => match s2.int r, s2.int r' with
  | some i, some j => if small62 i ∧ small62 j ∧ (j - i).toNat ≤ 2 ^ 24 then .ok (.own s2.ce.length) (s2.push (.lv (rngD i 1 (j - i).toNat))) else .bad
  | _, _ => .bad
def revS (f : ES) : ES := fun s => (f s).bind fun r s1 => match s1.look r with
  | some (.list ds) => .ok (.own s1.ce.length) (s1.push (.lv ds.reverse))
  | _ => .bad
section
variable {X : Cx} {W : WX} {a b : Expr} {f g : ES} {pos p p1 p2 p3 : Pos} {K : PySem.W.Frag} {Z : Addr → Prop} {H : Hp}
end
end E
/-! EH: chains of three comparisons, as tests. -/
namespace L2
open PySem PySem.Spec PyProof.Rows
section
variable {X : Cx} {a b c d : Expr} {ta tb tc td : TE} {pos : Pos}
def tChain3 (r r' r'' : R2) (ta tb tc td : TE) : TE := fun σ H Q => ta σ H fun x H1 => tb σ H1 fun y H2 => r x y H2 fun z H3 => ∃ k, z = .bl k ∧
  (if k = true then tc σ H3 fun w H4 => r' y w H4 fun z2 H5 => ∃ k2, z2 = .bl k2 ∧ (if k2 = true then td σ H5 fun u H6 => r'' w u H6 Q else Q (.bl false) H5) else Q (.bl false) H3)
end
end L2
namespace E
open PySem PySem.Spec PyProof.Rows L2
def chain3S (g g' g'' : R → R → S → Res R) (f1 f2 f3 f4 : ES) : ES := fun s => (f1 s).bind fun r1 s1 => (f2 s1).bind fun r2 s2 => (g r1 r2 s2).bind fun k s3 => match k with
  | .sh (.bool true) => (f3 s3).bind fun r3 s4 => (g' r2 r3 s4).bind fun k2 s5 => match k2 with
    | .sh (.bool true) => (f4 s5).bind fun r4 s6 => g'' r3 r4 s6
    | .sh (.bool false) => .ok (.sh (.bool false)) s5
    | _ => .bad
  | .sh (.bool false) => .ok (.sh (.bool false)) s3
  | _ => .bad
section
variable {X : Cx} {W : WX} {a b c d : Expr} {f1 f2 f3 f4 : ES} {g g' g'' : R → R → S → Res R} {pos : Pos} {K : PySem.W.Frag} {mg : Str → Option Value} {H : Hp} {σ : L2.St} {Q : VK}
end
end E
/-! EI: a def that calls itself: at zero turns it promises nothing. -/
namespace E
open PySem PySem.Spec PyProof.Rows L2
end E
/-! EJ: list(range(i, j)) with ends of any size. -/
namespace E
open PySem PySem.Spec PyProof.Rows L2
section
variable {prog : Program} {w : World} {A : Around} {E : Value → Shared → Prop} {s : Shared}
end
/-- list(range(i, j)), any ends -/
noncomputable def lrgA2 (f g : ES) : ES := fun s => (f s).bind fun r s1 => (g s1).bind fun r' s2 => match s2.int r, s2.int r' with
  | some i, some j => if (j - i).toNat ≤ 2 ^ 24 then .ok (.own s2.ce.length) (s2.push (.lv (rngD i 1 (j - i).toNat))) else .bad
  | _, _ => .bad
section
variable {X : Cx} {W : WX} {a b e : Expr} {f g : ES} {pos p p1 p2 p3 : Pos} {te : St → Hp → (Int → Int → Hp → Prop) → Prop}
end
end E
/-! EK: `in` over a tuple of lists. -/
namespace E
open PySem PySem.Spec PyProof.Rows L2
def inTR : R → R → S → Res R := fun r1 r2 s => match s.look r1, s.look r2 with
  | some d, some (.tuple ds) => if SeqAt.shaped d = true ∧ SeqAt.shaped (.list ds) = true then .ok (.sh (.bool (ds.any fun z => PyData.eqv z d))) s else .bad
  | _, _ => .bad
section
variable {X : Cx} {W : WX}
end
end E
/-! EL: f-strings of ints and texts, sep.join(texts). -/
namespace E
open PySem PySem.Spec PyProof.Rows L2
/-- {x} -/
noncomputable def fmtS (f : ES) : ES := fun s => (f s).bind fun r s1 => match s1.look r with
  | some (.int i) => if i.natAbs.log2 < 1920 then .ok (.sh (.str (Str.ofString (toString i)))) s1 else .bad
  | some (.str y) => if y.length ≤ sizeLine then .ok (.sh (.str y)) s1 else .bad
  | _ => .bad
/-- the parts one behind the other -/
def jsL : List ES → Str → ES
  | [], acc => fun s => .ok (.sh (.str acc)) s
  | f :: fs, acc => fun s => (f s).bind fun r s1 => match s1.look r with
    | some (.str y) => if (acc ++ y).length ≤ sizeLine then jsL fs (acc ++ y) s1 else .bad
    | _ => .bad
def jsS (fs : List ES) : ES := jsL fs Str.empty
section
variable {X : Cx} {W : WX} {e : Expr} {f : ES} {pos : Pos}
theorem se_fmt (ha : SE X W e f) : SE X W (.FormattedValue e (-1) none pos) (fmtS f) :=
  pe_imp (pe_fmt ha) fun σ H Q ⟨w, s, hS, h⟩ => by
    refine ⟨w, s, hS, Post.mono (Post.split h) fun w1 r s1 H1 _ _ ⟨hS1, e1, h1⟩ v hv => ?_⟩
    have h1 := h1 s1.ce.length e1.ln
    split at h1
    · rename_i i el
      split at h1
      · rename_i hz
        have := (look_ok hS1 el hv).int
        subst this
        exact .inr ⟨i, rfl, hz, h1.sh hS1 (Nat.le_refl _) (.str _)⟩
      · exact h1.elim
    · rename_i y el
      split at h1
      · rename_i hz
        have := (look_ok hS1 el hv).str
        subst this
        exact .inl ⟨y, rfl, hz, h1.sh hS1 (Nat.le_refl _) (.str _)⟩
      · exact h1.elim
    · exact h1.elim
inductive SJ (X : Cx) (W : WX) : List Expr → List ES → Prop where
  | nil : SJ X W [] []
  | cons {e : Expr} {f : ES} {es : List Expr} {fs : List ES} (h : SE X W e f) (r : SJ X W es fs) : SJ X W (e :: es) (f :: fs)
theorem SJ.pj {es : List Expr} {fs : List ES} (h : SJ X W es fs) : PJ X es (fs.map fun f => tE X.K X.mg W f) := by
  induction h with
  | nil => exact .nil
  | cons h _ ih => exact .cons h ih
theorem tjs_of {σ : St} {Q : VK} : ∀ (fs : List ES) (acc : Str) (H : Hp), tE X.K X.mg W (jsL fs acc) σ H Q → tJs (fs.map fun f => tE X.K X.mg W f) acc σ H fun out H1 => Q (.str out) H1
  | [], acc, H, ⟨w, s, hS, h⟩ => h.sh hS (Nat.le_refl _) (.str _)
  | f :: fs, acc, H, ⟨w, s, hS, h⟩ => by
    refine ⟨w, s, hS, Post.mono (Post.split h) fun w1 r s1 H1 _ _ ⟨hS1, e1, h1⟩ v hv => ?_⟩
    have h1 := h1 s1.ce.length e1.ln
    split at h1
    · rename_i y el
      split at h1
      · rename_i hz
        have := (look_ok hS1 el hv).str
        subst this
        exact ⟨y, rfl, hz, tjs_of fs (acc ++ y) H1 ⟨w1, s1, hS1, h1⟩⟩
      · exact h1.elim
    · exact h1.elim
theorem se_js {e1 e2 : Expr} {rest : List Expr} {fs : List ES} (h : SJ X W (e1 :: e2 :: rest) fs) : SE X W (.JoinedStr (e1 :: e2 :: rest) pos) (jsS fs) :=
  pe_imp (pe_joined h.pj) fun σ H Q h => tjs_of fs Str.empty H h
end
/-- a list of texts -/
def strsOf : List D → Option (List Str)
  | [] => some []
  | .str x :: r => (strsOf r).map (x :: ·)
  | _ :: _ => none
def isT : Option D → Bool
  | some (.str _) => true
  | _ => false
def joinR : R → List R → S → Res R := fun r rs s => match s.look r, rs with
  | some (.str a), [q] => match s.look q with
    | some (.list ds) => match strsOf ds with
      | some ys => if (ys.map (·.length)).sum + ys.length * a.length ≤ 16777216 then .ok (.sh (.str (Txt.join a ys))) s else .bad
      | none => .bad
    | _ => .bad
  | _, _ => .bad
def methT (g : R → List R → S → Res R) (f : ES) (t : AS) : ES := fun s => (f s).bind fun r s1 => if isT (s1.look r) = true then (t s1).bind fun rs s2 => g r rs s2 else .bad
section
variable {X : Cx} {W : WX} {e o : Expr} {es : List Expr} {f : ES} {t : AS} {g : R → List R → S → Res R} {pos apos cpos : Pos} {name : Str} {id : String} {K : PySem.W.Frag} {mg : Str → Option Value} {w : Wd} {s : S} {H : Hp} {Z : Addr → Prop} {σ : St} {Q : VK}
theorem strsOf_v : ∀ {ds : List D} {ns : List Str} {vs : List V}, strsOf ds = some ns → Dens K Z H vs ds → vs = ns.map V.str
  | [], ns, vs, h, z => by
    cases z
    have : [] = ns := Option.some.inj h
    subst this
    rfl
  | d :: r, ns, vs, h, z => by
    cases z with
    | cons z1 z2 =>
      cases d with
      | str i =>
        have h' : (strsOf r).map (i :: ·) = some ns := h
        cases e : strsOf r with
        | none => rw [e] at h'; cases h'
        | some ms =>
          rw [e] at h'
          have : i :: ms = ns := Option.some.inj h'
          subst this
          cases z1
          rw [List.map_cons, strsOf_v e z2]
      | _ => cases h
theorem m_join : MtR X "str.join" (AtM X.K X.mg W joinR) := by
  intro pins s0 σ0 H x xs v us Q I rx rv ⟨σ, w, s, r, rs, hS, h1, h2, hp⟩
  unfold joinR at hp
  split at hp
  · rename_i a q ea
    obtain ⟨vq, rfl, hq⟩ := h2.one
    split at hp
    · rename_i ds ed
      split at hp
      · rename_i ys ey
        split at hp
        · rename_i hz
          have := (look_ok hS ea h1).str
          subst this
          obtain ⟨p, ws, rfl, l, z⟩ := (look_ok hS ed hq).list
          have := strsOf_v ey z
          subst this
          exact mt_join pins s0 σ0 H _ _ v us Q I rx rv ⟨a, p, ys, rfl, rfl, .inl l.sq, hz, hp.sh hS (Nat.le_refl _) (.str _)⟩
        · exact hp.elim
      · exact hp.elim
    · exact hp.elim
  · exact hp.elim
theorem isT_ty {r : R} {v : V} (hS : StR K mg w s σ H) (h : isT (s.look r) = true) (hr : RR K mg w s.ce.length H v r) : tyV K "str" v H := by
  unfold isT at h
  split at h
  · rename_i y el
    have := (look_ok hS el hr).str
    subst this
    rfl
  · cases h
theorem methT_at (h : tE K mg W (methT g f t) σ H Q) : tBM K "str" (AtM K mg W g) (tE K mg W f) (tA K mg W t) σ H Q := by
  obtain ⟨w, s, hS, h⟩ := h
  refine ⟨w, s, hS, Post.mono (Post.split h) fun w1 r1 s1 H1 _ _ ⟨hS1, e1, h1⟩ v hv => ?_⟩
  have h1 := h1 s1.ce.length e1.ln
  split at h1
  · rename_i hl
    refine ⟨isT_ty hS1 hl hv, w1, s1, hS1, Post.mono (Post.split h1) fun w2 rs s2 H2 _ _ ⟨hS2, e2, h2⟩ vs hvs => ?_⟩
    exact ⟨σ, w2, s2, r1, rs, hS2, RR.stay hS1 e2 (Nat.le_refl _) hv, hvs, h2 _ e2.ln⟩
  · exact h1.elim
theorem se_methT (slot : Slot "str" name id) (hty : typeOf (.builtin id) = pure (.type "method_descriptor")) (hm : MtR X id (AtM X.K X.mg W g)) (ho : SE X W o f) (ha : SA X W (e :: es) t)
    (hbase : attributeBase o name X.env (eval o X.env) = eval o X.env := by rfl)
    (hfew : ((backTo cpos (starEach (e :: es) X.env)).all (fun x => !x.1) && (backToKw cpos (keywordEach [] X.env)).all (fun x => x.1.isSome) && decide ((e :: es).length + ([] : List Keyword).length + (if ([] : List Keyword).isEmpty then 0 else 1) < 30)) = true := by rfl)
    (hline : (apos.endLine == cpos.line) = true := by rfl) (hs : starEach (e :: es) X.env = (false, eval e X.env) :: starEach es X.env := by rfl) (hplain : (backTo cpos (starEach es X.env)).any (·.1) = false := by rfl) :
    SE X W (.Call (.Attribute o name apos) (e :: es) [] cpos) (methT g f t) :=
  pe_imp (pe_bm PySem.F.plainAttrs_str slot hty hm ho ha hbase hfew hline hs hplain) fun σ H Q h => methT_at h
end
end E
/-! EM: displays of dicts whose keys and values are written in the text, as data. -/
namespace E
open PySem PySem.Spec PyProof.Rows L2
section
variable {X : Cx} {W : WX} {pos : Pos}
end
end E
/-! EN: tuple + tuple, either one perhaps empty. -/
namespace E
open PySem PySem.Spec PyProof.Rows L2
def addTR : R → R → S → Res R := fun r1 r2 s =>
  match s.look r1, s.look r2 with
  | some (.tuple xs), some (.tuple ys) => if xs.length + ys.length ≤ sizeLine then .ok (.sh (.tuple (xs ++ ys))) s else .bad
  | _, _ => .bad
section
variable {X : Cx} {W : WX}
end
end E
/-! EO: a comprehension's list that is fixed when it is stored; a list that is taken apart. -/
namespace E
open PySem PySem.Spec PyProof.Rows L2
section
variable {X : Cx} {W : WX} {elt tg iter tg1 iter1 : Expr} {ifs ifs1 : List Expr} {scope : Scope} {own : List (Str × Nat)} {vs vs1 : List Nat} {pos spos py : Pos} {it it1 : IS} {g gg : Tg} {ft ft1 : TS'} {fe : ES} {i : Nat} {y : Str}
end
/-- a, b, .. = a list -/
def unpLS (is : List Nat) (f : ES) : SS := fun s => (f s).bind fun r s1 => match s1.look r with
  | some (.list ds) => match setMany is ds s1 with
    | some s2 => doneS s2
    | none => .bad
  | _ => .bad
section
variable {X : Cx} {W : WX} {e a b c o : Expr} {es rest : List Expr} {st : Stmt} {sts sts2 : List Stmt} {f f1 f2 f3 : ES} {k l : SS} {u u1 u2 : TS'} {t : AS} {g : R → R → S → Res R} {pos p : Pos} {K : PySem.W.Frag} {mg : Str → Option Value} {w w' : Wd} {s s' : S} {H H' : Hp} {Z : Addr → Prop} {σ : St} {Q : VK} {x name : Str} {B : Ends} {q0 : Nat}
end
end E
/-! EX: exceptions of the text's own classes: what is known of a class; raise; isinstance and the field of one that is held. -/
namespace E
open PySem PySem.Spec PyProof.Rows L2

/-! ### the classes -/
/-- whether an error of the class x is one of the class y -/
def isX (x y : String) : Bool := x == y || (y == "LineError" || y == "ValueError")
def fldOf (x : String) : Str := if x == "TooLarge" then "limit" else if x == "InvalidSyntax" then "word" else "index"
/-- what is known of an own class of errors -/
structure XC (K : PySem.W.Frag) (C : Addr) : Prop where
  ga : PySem.W.findIn K (.ref C) "__getattribute__" = some (some (.builtin "BaseException.__getattribute__"))
  gg : PySem.W.findIn K (.ref C) "__getattr__" = some none
  ex : PySem.W.subIn K (.ref C) (.type "BaseException") = some true
  hd : PySem.W.hasDictIn K C = true
  cl : PySem.W.findIn K (.ref C) "__class__" = some (some (.builtin "object.__class__"))
  hn : PySem.W.specialIn K (.builtin "object.__class__") "__get__" = some (some (.builtin "getset_descriptor.__get__"))
  ht : PySem.W.takesIn K (.builtin "object.__class__") = some true
  hm : PySem.W.mroIn K C (.type "object") = some true
  ci : (PySem.W.clsIn K C).isSome = true
  ty : PySem.W.typeIn K (.ref C) = some (.type "type")
  kp : PySem.W.keepIn K (.ref C) = true
def xcB (K : PySem.W.Frag) (C : Addr) : Bool :=
  (decide (PySem.W.findIn K (.ref C) "__getattribute__" = some (some (.builtin "BaseException.__getattribute__"))) && decide (PySem.W.findIn K (.ref C) "__getattr__" = some none)) &&
  ((decide (PySem.W.subIn K (.ref C) (.type "BaseException") = some true) && PySem.W.hasDictIn K C) &&
  ((decide (PySem.W.findIn K (.ref C) "__class__" = some (some (.builtin "object.__class__"))) && decide (PySem.W.specialIn K (.builtin "object.__class__") "__get__" = some (some (.builtin "getset_descriptor.__get__")))) &&
  ((decide (PySem.W.takesIn K (.builtin "object.__class__") = some true) && decide (PySem.W.mroIn K C (.type "object") = some true)) &&
  ((PySem.W.clsIn K C).isSome && (decide (PySem.W.typeIn K (.ref C) = some (.type "type")) && PySem.W.keepIn K (.ref C))))))
/-- the classes by their names: bk are all that are asked for, rs those that may be raised -/
structure Book (K : PySem.W.Frag) (mg : Str → Option Value) (rs bk : List String) : Prop where
  at_ : ∀ x ∈ bk, ∃ C, mg (Str.ofString x) = some (.ref C) ∧ XC K C ∧ PySem.W.findIn K (.ref C) (fldOf x) = some none
  is_ : ∀ x ∈ rs, ∀ y ∈ bk, ∀ C D, mg (Str.ofString x) = some (.ref C) → mg (Str.ofString y) = some (.ref D) → PySem.W.kitCls K (.ref C) (.ref D) = some (isX x y)
  ve : ∀ x ∈ rs, ∀ C, mg (Str.ofString x) = some (.ref C) → PySem.W.kitCls K (.ref C) (.type "ValueError") = some true
  sub : ∀ x ∈ rs, x ∈ bk
def bookB (K : PySem.W.Frag) (rs bk : List (String × Addr)) : Bool :=
  bk.all (fun p => xcB K p.2 && decide (PySem.W.findIn K (.ref p.2) (fldOf p.1) = some none)) &&
  (rs.all (fun p => bk.all fun q => decide (PySem.W.kitCls K (.ref p.2) (.ref q.2) = some (isX p.1 q.1))) &&
  rs.all fun p => decide (PySem.W.kitCls K (.ref p.2) (.type "ValueError") = some true))
section
variable {K : PySem.W.Frag} {mg : Str → Option Value} {rs bk : List String} {x y : String} {C D : Addr}
theorem isX_self : isX x x = true := by simp [isX]
theorem Book.one (B : Book K mg rs bk) (hx : x ∈ rs) (hy : y ∈ bk) (e1 : mg (Str.ofString x) = some (.ref C)) (e2 : mg (Str.ofString y) = some (.ref D)) : PySem.W.kitOne K (.ref C) (.ref D) = some (isX x y) := by
  have q := B.is_ x hx y hy C D e1 e2
  unfold PySem.W.kitOne
  split
  · rename_i he
    have he : Value.ref C = Value.ref D := by simpa using he
    cases he
    -- the same class: it is asked about itself
    have h1 := B.is_ x hx x (B.sub x hx) C C e1 e1
    rw [isX_self] at h1
    rw [← q, h1]
  · exact q
theorem Book.cls (B : Book K mg rs bk) (hy : y ∈ bk) (e : mg (Str.ofString y) = some (.ref D)) : XC K D ∧ PySem.W.findIn K (.ref D) (fldOf y) = some none := by
  obtain ⟨D', h1, h2, h3⟩ := B.at_ y hy
  rw [e] at h1
  cases h1
  exact ⟨h2, h3⟩
end

/-! ### isinstance, the field -/
section
variable {X : Cx} {W : WX} {rs bk : List String} {pins : List (Addr × Obj)} {σ : St} {H : Hp} {s : Shared} {v : V} {x : Ex} {Z : Addr → Prop}
/-- isinstance(e, ..), e an exception that is held -/
def isiX (rs : List String) (ys : List String) : R → S → Res R := fun r s => match r with
  | .ex x => if rs.contains x.cls = true then .ok (.sh (.bool (ys.any (isX x.cls)))) s else .bad
  | _ => .bad
end
end E
/-! EX2: exceptions that are held: isinstance, their field, is None; raise. -/
namespace E
open PySem PySem.Spec PyProof.Rows L2

/-- the field of an exception that is held -/
def fldE (bk : List String) (f : Str) : R → S → Res R := fun r s => match r with
  | .ex ⟨c, (g, d) :: _⟩ => if g = f ∧ fldOf c = f ∧ bk.contains c = true then .ok (.sh d) s else .bad
  | _ => .bad
/-- is None, of an exception or data -/
def isNX (neg : Bool) : R → S → Res R := fun r s => match r with
  | .ex _ => .ok (.sh (.bool neg)) s
  | r => isNR neg r s
section
variable {X : Cx} {W : WX} {rs bk : List String} {a b : Expr} {f : ES} {pos p p1 p2 : Pos}
theorem in_of {rs : List String} {x : String} (h : rs.contains x = true) : x ∈ rs := by simpa using h
/-- the names of classes -/
inductive ClsE (X : Cx) (bk : List String) : List Expr → List String → Prop
  | nil : ClsE X bk [] []
  | cons {y : String} {q : Pos} {es : List Expr} {ys : List String} (hy : bk.contains y = true) (hg : Gl X (Str.ofString y)) (r : ClsE X bk es ys) (hd : ((Str.ofString y) == ("__debug__" : Str)) = false := by decide)
      (he : starEach (.Name (Str.ofString y) q :: es) X.env = (false, eval (.Name (Str.ofString y) q) X.env) :: starEach es X.env := by rfl) : ClsE X bk (.Name (Str.ofString y) q :: es) (y :: ys)
theorem ClsE.pa (B : Book X.K X.mg rs bk) : ∀ {es : List Expr} {ys : List String}, ClsE X bk es ys → ∃ Ds : List Addr, Paired (fun y D => y ∈ bk ∧ X.mg (Str.ofString y) = some (.ref D)) ys Ds ∧ PA X es (fun _ H Q => Q (Ds.map V.ref) H)
  | _, _, .nil => ⟨[], .nil, ⟨fun pos pins s σ H Q I h => (pa_nil (X := X)).run pos pins s σ H Q I h⟩⟩
  | _, _, .cons (y := y) hy hg r hd he => by
    obtain ⟨Ds, h1, h2⟩ := ClsE.pa B r
    obtain ⟨D, hD, _, _⟩ := B.at_ y (in_of hy)
    refine ⟨D :: Ds, .cons ⟨in_of hy, hD⟩ h1, ⟨fun pos pins s σ H Q I h => ?_⟩⟩
    exact (pa_cons (pe_glob (v := .ref D) hg hD rfl hd) h2 he).run pos pins s σ H Q I h
end
end E
/-! EX3: raise; the __init__ of an own class of errors. -/
namespace E
open PySem PySem.Spec PyProof.Rows L2

def veL : List Value := [.type "ValueError", .type "Exception", .type "BaseException", .type "object"]
def raise0 (x : String) : SS := fun s => .exc ⟨x, []⟩ s
def raise1 (x : String) (n : Str) (f : ES) : SS := fun s => (f s).bind fun r s1 => match r with
  | .sh d => .exc ⟨x, [(n, d)]⟩ s1
  | _ => .bad
/-- the base of all own errors -/
structure LE (K : PySem.W.Frag) (mg : Str → Option Value) (b : Str) (B : Addr) : Prop where
  mg : mg b = some (.ref B)
  sp : PySem.W.specialIn K (.ref B) "__getattribute__" = some (some (.builtin "type.__getattribute__"))
  rd : PySem.W.readsIn K B (.type "type") = true
  fi : PySem.W.findCls K (.ref B) (.type "type") "__init__" = some (.val (.builtin "ValueError.__init__"))
section
variable {X : Cx} {W : WX} {e : Expr} {es : List Expr} {ta : TA} {p p1 p2 pos : Pos} {b : Str} {B : Addr}
end
/-- what the __init__ of an own class promises: the field is there -/
def spI (C : Addr) (f : Str) : Sp := fun vs H Q _ => ∃ a v, vs = [.ref a, v] ∧ H a = some (exo a C none) ∧ ∀ dx, H dx = none → dx ≠ a → Q .non (upd (upd H dx (exd dx [(f, v)])) a (exo a C (some dx)))
section
variable {P : Program} {w : World} {K : PySem.W.Frag} {mg : Str → Option Value} {base : Heap} {qual b f : Str} {st : Stmt} {fI C B : Addr} {fd : FuncData}
/-- an own class of errors with a field -/
structure Init1 (P : Program) (w : World) (K : PySem.W.Frag) (mg : Str → Option Value) (base : Heap) (x : String) (n : Str) (C : Addr) : Prop where
  mgC : mg (Str.ofString x) = some (.ref C)
  ox : OexC K C
  ex : ∃ (fI : Addr) (fd : FuncData), PySem.W.findIn K (.ref C) "__init__" = some (some (.ref fI)) ∧ PySem.W.typeIn K (.ref fI) = some (.type "function") ∧ FnOk P w K mg base C8.CX0 1 fI fd ["self", n] (spI C n) ∧ Binds K fd ["self", n] []
end
end E
/-! EX4: the rules of raise; defs that may raise, and calls of them. -/
namespace E
open PySem PySem.Spec PyProof.Rows L2

/-- an own class of errors without an __init__ of its own -/
structure Init0 (K : PySem.W.Frag) (mg : Str → Option Value) (x : String) (C : Addr) : Prop where
  mgC : mg (Str.ofString x) = some (.ref C)
  ec : PySem.W.excIn K C veL "ValueError.__new__" = true
  kp : PySem.W.keepIn K (.ref C) = true
  ex : PySem.W.subIn K (.ref C) (.type "BaseException") = some true
  ty : PySem.W.typeIn K (.ref C) = some (.type "type")
section
variable {X : Cx} {W : WX} {x : String} {C : Addr} {e : Expr} {f : ES} {m : Str} {j : Nat} {p p2 pos pos' : Pos}
end

/-! ### defs that may raise -/
def CallsX (K : PySem.W.Frag) (mg : Str → Option Value) (n : Nat) (F : FT) (vs : List V) (H : Hp) (Q : VK) (E : XK) : Prop := ∃ (w : Wd) (ps : List R) (io : List Cell), io.length = vs.length ∧ StR K mg w (ent n ps io) (startN n vs) H ∧
  match F ps io with
  | .ok r s' => ∀ w' σ' H' v, StR K mg w' s' σ' H' → Ext io.length w (ent n ps io) H w' s' H' → RR K mg w' s'.ce.length H' v r → Q v H'
  | .exc x s' => ∀ w' σ' H' cls dd, StR K mg w' s' σ' H' → Ext io.length w (ent n ps io) H w' s' H' → ExR K mg w' H' x cls dd → E cls dd H'
  | .bad => False
structure FnX (P : Program) (w : World) (K : PySem.W.Frag) (mg : Str → Option Value) (base : Heap) (k : Nat) (f : Addr) (fd : FuncData) (ps : List Str) (n : Nat) (F : FT) : Prop where
  run : ∀ (A : Around) (outer : List Env) (z : Shared) (H : Hp) (args : Args) (us : List Value) (vs : List V) (Q : VK) (E : XK), Room k A → A.guards = some [] → Env0 P w K mg base A outer z H → BindsTo z fd args (ps.zip us) → Vals vs us → vs.length = ps.length → CallsX K mg n F vs H Q E →
    codeAny (model P w) A (.call (.ref f) args) (CR (L2N.CX P w) outer P w H z Q E) z
/-- what a raising def's body wishes of its exceptions -/
abbrev WE1 (E : XK) : WX := fun cls d _ H => E cls d H
/-! ### calls of them -/
def noIo (L : List Pa) : Bool := L.all fun p => p.ioc.isNone
def callDX (md : List Bool) (F : FT) : List R → S → Res R := fun rs s => match passL s md rs with
  | some L => if apart L = true then (match F (psOf L) (ioOf L) with
    | .ok r s' => retR L r s' s
    | .exc x s' => if noIo L = true ∧ (!lentIn L || x.fs.all fun p => atomD p.2) = true then .exc x s else .bad
    | .bad => .bad) else .bad
  | none => .bad
/-- f(e, ..), f a def that may raise -/
def callX (md : List Bool) (F : FT) (m q : Nat) (ix : List Nat) (ds : List D) (fa fk : AS) : ES := fun s => (fa s).bind fun rs s1 => (fk s1).bind fun ks s2 => if rs.length = m ∧ ks.length = q then callDX md F (pick ix (rs ++ ks ++ ds.map R.sh)) s2 else .bad
section
variable {K : PySem.W.Frag} {mg : Str → Option Value} {W : WX} {w w' w₂ w0 w1 : Wd} {s s' s₂ s0 s1 : S} {H H' H₂ H0 H1 : Hp} {σ σ' σ0 : St} {p q m n : Nat} {L : List Pa} {Z Z' : Addr → Prop}
end
section
variable {X : Cx} {W : WX} {x : Str} {k m n : Nat} {f : Addr} {fd : FuncData} {ps ks : List Str} {F : FT} {ix : List Nat} {ds : List D} {dvs : List V} {dus : List Value} {md : List Bool} {fa fk : AS} {e : Expr} {es : List Expr} {kws : List Keyword} {p pos : Pos}
/-- what a callee that may raise asks -/
structure CalleX (X : Cx) (x : Str) (k : Nat) (f : Addr) (fd : FuncData) (ps ks : List Str) (n m : Nat) (F : FT) (ix : List Nat) (ds : List D) (dvs : List V) (dus : List Value) : Prop where
  fn : FnX X.prog X.w X.K X.mg X.base k f fd ps n F
  room : Room k X.A
  gd : X.A.guards = some []
  mg : X.mg x = some (.ref f)
  kp : PySem.W.keepIn X.K (.ref f) = true
  bn : BN X.K fd ps m ks ix dus
  dv : Vals dvs dus
  dd : ds.mapM dflV = some dvs
  np : ps.length ≤ n
  il : ix.length = ps.length
  ib : ∀ i ∈ ix, i < m + ks.length + dvs.length
end

/-! ### short words for printed proofs -/
def OwnX (P : Program) (w : World) (K : PySem.W.Frag) (mg : Str → Option Value) (base : Heap) (x : Str) (st : Stmt) (dvs : List V) (k : Nat) (ps : List Str) (n : Nat) (F : FT) : Prop :=
  ∃ (f : Addr) (fd : FuncData), FnX P w K mg base k f fd ps n F ∧ mg x = some (.ref f) ∧ PySem.W.keepIn K (.ref f) = true ∧ FunD K x x (defArgs st) (defBody st) (defScope st) dvs [] f fd
abbrev CxtX (P : Program) (w : World) (K : PySem.W.Frag) (mg : Str → Option Value) (base : Heap) (N : List Str) (x : Str) (st : Stmt) (f : Addr) (cdv : Value) (A : Around) (outer : List Env) (z : Shared) (H : Hp) (E : XK) : Cx :=
  cxOf (L2N.CX P w) P w K mg base N x (defScope st) f cdv A outer z H E
section
variable {X : Cx} {W : WX} {x : Str} {k j m n : Nat} {ps ks : List Str} {F : FT} {ix : List Nat} {ds : List D} {dvs : List V} {md : List Bool} {fa fk : AS} {e : Expr} {es : List Expr} {kws : List Keyword} {p pos : Pos} {st : Stmt}
end
end E
/-! EX5: try with several clauses, their names kept: a caught exception stands in the heap as a thing that is known. -/
namespace E
open PySem PySem.Spec PyProof.Rows L2

structure Clause where
  nm : String
  sl : Option Nat
  body : SS
def bindX (sl : Option Nat) (x : Ex) (s : S) : S := match sl with
  | some i => { s with sl := s.sl.set i (some (.ex x)) }
  | none => s
def S.unset (i : Nat) (s : S) : S := { s with sl := s.sl.set i none }
def endX (sl : Option Nat) (r : Res Fl) : Res Fl := match r with
  | .ok fl s => (match sl with
    | some i => .ok fl (s.unset i)
    | none => .ok fl s)
  | _ => .bad
def clauses : List Clause → Ex → S → Res Fl
  | [], _, _ => .bad
  | c :: l, x, s => if isX x.cls c.nm = true then endX c.sl (c.body (bindX c.sl x s.tr)) else clauses l x s
def trS (rs : List String) (l : List Clause) (body : SS) : SS := fun s => match body s with
  | .exc x s1 => if rs.contains x.cls = true then clauses l x s1 else .bad
  | r => r
section
variable {K : PySem.W.Frag} {mg : Str → Option Value} {W : WX} {w w' w₂ : Wd} {s s' s₂ : S} {H H' H₂ : Hp} {σ : St} {p q : Nat} {B B' : Ends}
end

/-! ### a new object of the heap is tracked -/
section
variable {X : Cx} {pins : List (Addr × Obj)} {σ : St} {H : Hp} {s s0 : Shared} {a : Addr} {oe : Obj}
def ExAt (a : Addr) (oe : Obj) : HO := .frz oe (.ext fun h => h.get? a = some oe)
/-- the exception that is handled is tracked, its context is None -/
def Hot (A : Around) (H : Hp) : Prop := ∃ (a : Addr) (oe : Obj) (φ : Heap → Prop) (vs : Array Value), A.handled = some (.ref a) ∧ H a = some (.frz oe (.ext φ)) ∧ oe.data = .fields vs ∧ vs[2]? = some .none
/-- the context of a suite: the exception is there from its begin on -/
abbrev su (X : Cx) (a : Addr) (oe : Obj) (pn : List (Addr × Obj)) : Cx := { X.suite a pn with H_0 := upd X.H_0 a (ExAt a oe) }
end

/-! ### the rule -/
inductive HdsN (X : Cx) (bk : List String) : List ExceptHandler → List Clause → Prop
  | nil : HdsN X bk [] []
  | named {y : String} {n : Str} {i : Nat} {fs : SS} {b₀ : Stmt} {suite : List Stmt} {np pos' : Pos} {hds : List ExceptHandler} {l : List Clause} (hy : bk.contains y = true) (hg : Gl X (Str.ofString y)) (hi : X.N[i]? = some n) (hln : X.env.kindOf n = some .local)
      (hs : ∀ (a : Addr) (oe : Obj) (pn : List (Addr × Obj)), Hot (su X a oe pn).A (su X a oe pn).H_0 → SB (su X a oe pn) W0 (b₀ :: suite) fs) (r : HdsN X bk hds l) (hdb : ((Str.ofString y) == ("__debug__" : Str)) = false := by decide) :
      HdsN X bk (.ExceptHandler (some (.Name (Str.ofString y) np)) (some n) (b₀ :: suite) pos' :: hds) (⟨y, some i, fs⟩ :: l)
  | bare {y : String} {fs : SS} {b₀ : Stmt} {suite : List Stmt} {np pos' : Pos} {hds : List ExceptHandler} {l : List Clause} (hy : bk.contains y = true) (hg : Gl X (Str.ofString y))
      (hs : ∀ (a : Addr) (oe : Obj) (pn : List (Addr × Obj)), Hot (su X a oe pn).A (su X a oe pn).H_0 → SB (su X a oe pn) W0 (b₀ :: suite) fs) (r : HdsN X bk hds l) (hdb : ((Str.ofString y) == ("__debug__" : Str)) = false := by decide) :
      HdsN X bk (.ExceptHandler (some (.Name (Str.ofString y) np)) none (b₀ :: suite) pos' :: hds) (⟨y, none, fs⟩ :: l)
section
variable {X : Cx} {W : WX} {rs bk : List String} {body : List Stmt} {h₀ : ExceptHandler} {hds : List ExceptHandler} {l : List Clause} {fb : SS} {pos : Pos}
end
end E
/-! EX6: where an exception is handled: a pair's stores. -/
namespace E
open PySem PySem.Spec PyProof.Rows L2
theorem HotAt.keep {A : Around} {x1 : Addr} {h h' : Heap} (q : HotX.HotAt A x1 h) (k : ∀ b o, h.get? b = some o → (∀ vs, o.data = .fields vs → b ≠ x1 → True) → b = x1 → h'.get? b = some o) : HotX.HotAt A x1 h' := by
  obtain ⟨h1, o, vs, h2, h3, h4⟩ := q
  exact ⟨h1, o, vs, k x1 o h2 (fun _ _ _ => trivial) rfl, h3, h4⟩
section
variable {prog : Program} {w : World} {A : Around} {E : Value → Shared → Prop} {s : Shared} {x1 : Addr}
end
section
variable {X : Cx} {W : WX} {x y : Str} {i j : Nat} {a b : Expr} {ta : TA} {t : AS} {px py pt pos : Pos} {kt k2 : Nat} {pt2 : Pos}
end
end E
/-! EX7: a def that raises, where nothing is raised; the classes' facts from what the top has written. -/
namespace E
open PySem PySem.Spec PyProof.Rows L2

def oexB (K : PySem.W.Frag) (C : Addr) : Bool := match K.lookup C with
  | some ⟨.type "type", _, .cls cd, sl⟩ => (match cd.mro, sl.toList with
    | .ref C' :: bm, [_, _, _, _, some (.builtin n), _] => (C' == C && n == "ValueError.__new__") && ((!cd.hasDel && cd.hasDict) && PySem.HandSPX.refsVE bm)
    | _, _ => false)
  | _ => false
section
variable {P : Program} {w : World} {K : PySem.W.Frag} {mg : Str → Option Value} {base : Heap} {rs bk : List String} {x : String} {n : Str} {C fI : Addr} {fd : FuncData}
end
end E
/-! EP: where an exception is handled: the end of a list's walk, for over a list, a pair as target, comprehensions. -/
namespace E
open PySem PySem.Spec PyProof.Rows L2
section
variable {prog : Program} {w : World} {A : Around} {E : Value → Shared → Prop} {z : Shared} {x1 : Addr}
end
/-! ### walks where an exception is handled -/
structure TurnX (P : Program) (w : World) (K : PySem.W.Frag) (tg : Expr) (J : It) (fp : List Addr) (it : Addr) (tn : Nat → Heap → Prop) : Prop where
  within : it ∈ fp
  there : ∀ i h, tn i h → ∀ b ∈ fp, ∃ o, h.get? b = some o ∧ ∀ v, o.data ≠ .cell v
  stays : ∀ i h h', tn i h → (∀ b ∈ fp, ∀ o, h.get? b = some o → h'.get? b = some o) → tn i h'
  next : ∀ Y : Cx, Y.prog = P → Y.w = w → Y.K = K → Hot Y.A Y.H_0 → ∀ (i : Nat) (ps : List (Addr × Obj)) (z : Shared) (σ : St) (H : Hp) (E : Value → Shared → Prop), Inv Y ps σ H z → (∀ b ∈ fp, FpOk Y ps H b) → tn i z.heap → J.go i H →
    wpAny (model P w) Y.A (pyNext (.ref it)) (fun r z1 => ∃ u, r = some u ∧ wpAny (model P w) Y.A (letOwnedTupleGo tg (.ref it) u) (fun _ z2 => ∃ x H', Inv Y ps σ H' z2 ∧ RelV x u ∧ J.yld i H x H' ∧ tn (i + 1) z2.heap ∧ ∀ b ∈ fp, H' b = none) E z1) E z
  last : ∀ Y : Cx, Y.prog = P → Y.w = w → Y.K = K → Hot Y.A Y.H_0 → ∀ (i : Nat) (ps : List (Addr × Obj)) (z : Shared) (σ : St) (H : Hp) (E : Value → Shared → Prop), Inv Y ps σ H z → (∀ b ∈ fp, FpOk Y ps H b) → tn i z.heap → J.stop i H →
    wpAny (model P w) Y.A (pyNext (.ref it)) (fun r z1 => r = none ∧ Inv Y ps σ H z1) E z
  again : ∀ (A : Around) (i : Nat) (z : Shared) (Q : Value → Shared → Prop) (E : Value → Shared → Prop), tn i z.heap → Q (.ref it) z → wpAny (model P w) A (pyIter (.ref it)) Q E z
/-- an iterator that may be walked where an exception is handled -/
structure PIX (X : Cx) (tg iter : Expr) (wi : TI) : Prop where
  run : ∀ (ps : List (Addr × Obj)) (z : Shared) (σ : St) (H : Hp) (R : It → Hp → Prop), Inv X ps σ H z → wi σ H R →
    wpAny (model X.prog X.w) X.A (eval iter X.env) (fun v z1 => wpAny (model X.prog X.w) X.A (pyIter v) (fun itv z2 => ∃ (it : Addr) (fp : List Addr) (tn : Nat → Heap → Prop) (J : It) (H' : Hp), itv = .ref it ∧ Inv X ps σ H' z2 ∧ TurnX X.prog X.w X.K tg J fp it tn ∧ tn 0 z2.heap ∧ (∀ b ∈ fp, FpOk X ps H' b) ∧ R J H') X.xe z1) X.xe z
end E
/-! EP2: a pair as target, comprehensions, where an exception is handled. -/
namespace E
open PySem PySem.Spec PyProof.Rows L2
section
variable {X : Cx} {pos : Pos}
end
section
variable {X : Cx} {elt tg iter : Expr} {ifs : List Expr} {scope : Scope} {own : List (Str × Nat)} {wi : TI} {g : TG} {tt : TT} {te : TE}
/-- what holds of every context of a block within a suite -/
def BlkX (X : Cx) (scope : Scope) (J : Cx → Prop) : Prop := ∀ (z : Shared) (H : Hp) (C : Addr) (cl : List (Str × Addr)) (fp : List Addr), Hot X.A H → J (X.blk z H scope (compEnvC scope cl C X.env) fp)
end
end E
/-! EP3: the evaluator's rules where an exception is handled: for, comprehensions. -/
namespace E
open PySem PySem.Spec PyProof.Rows L2
/-! ### the evaluator's rules -/
section
variable {X : Cx} {W : WX} {tg e iter elt : Expr} {ifs : List Expr} {f fe : ES} {ft : TS'} {it : IS} {g : Tg} {dr : List Nat} {body : List Stmt} {fb : SS} {pos spos py : Pos} {scope : Scope} {own : List (Str × Nat)} {vs : List Nat} {i : Nat} {y : Str}
def SIX (X : Cx) (W : WX) (tg e : Expr) (f : IS) : Prop := PIX X tg e (tI X.K X.mg W f)
end
end E
/-! EP4: the text's defs called where an exception is handled. -/
namespace E
open PySem PySem.Spec PyProof.Rows L2
/-- a def keeps its promise there too -/
structure FnHot (P : Program) (w : World) (K : PySem.W.Frag) (mg : Str → Option Value) (base : Heap) (k : Nat) (f : Addr) (fd : FuncData) (ps : List Str) (n : Nat) (F : FT) : Prop where
  run : ∀ (A : Around) (outer : List Env) (z : Shared) (H : Hp) (args : Args) (us : List Value) (vs : List V) (Q : VK), L2H.RoomH k A → A.guards = some [] → Hot A H → Env0 P w K mg base A outer z H → BindsTo z fd args (ps.zip us) → Vals vs us → vs.length = ps.length → Calls K mg n F vs H Q →
    codeAny (model P w) A (.call (.ref f) args) (CR CX0 outer P w H z Q L2.E0) z
/-- the context of such a def's body -/
abbrev CxHot (P : Program) (w : World) (K : PySem.W.Frag) (mg : Str → Option Value) (base : Heap) (N : List Str) (x : Str) (st : Stmt) (f : Addr) (cdv : Value) (A : Around) (outer : List Env) (z : Shared) (H : Hp) : Cx :=
  { cxOf CX0 P w K mg base N x (defScope st) f cdv A outer z H L2.E0 with calm := false, xe := fun _ _ => False }
def OwnHot (P : Program) (w : World) (K : PySem.W.Frag) (mg : Str → Option Value) (base : Heap) (x : Str) (st : Stmt) (dvs : List V) (k : Nat) (ps : List Str) (n : Nat) (F : FT) : Prop :=
  ∃ (f : Addr) (fd : FuncData), FnHot P w K mg base k f fd ps n F ∧ mg x = some (.ref f) ∧ PySem.W.keepIn K (.ref f) = true ∧ FunD K x x (defArgs st) (defBody st) (defScope st) dvs [] f fd
section
variable {X : Cx} {W : WX} {x : Str} {k j m n : Nat} {ps : List Str} {F : FT} {ix : List Nat} {ds : List D} {dvs : List V} {md : List Bool} {fa : AS} {e : Expr} {es : List Expr} {p pos : Pos} {st : Stmt}
end
end E
namespace E
open PySem PySem.Spec PyProof.Rows L2
end E
namespace E
open PySem PySem.Spec PyProof.Rows L2
end E
/-! EST: texts taken apart: x.split(sep), one sign in a text, a walk over the signs, int(text), text * int, dicts of texts that the top has written. -/
namespace E
open PySem PySem.Spec PyProof.Rows L2
def splitR : R → List R → S → Res R := fun r rs s => match s.look r, rs with
  | some (.str a), [q] => match s.look q with
    | some (.str b) => if (b.length == 0) = false ∧ a.length + 2 ≤ sizeLine then .ok (.own s.ce.length) (s.push (.lv ((Txt.split a b).map PyData.str))) else .bad
    | _ => .bad
  | _, _ => .bad
/-- one sign in a text -/
def inTS (neg : Bool) : R → R → S → Res R := fun r1 r2 s => match s.look r1, s.look r2 with
  | some (.str x), some (.str y) => match x.cps.toList with
    | [c] => .ok (.sh (.bool (if neg then !decide (c ∈ y.cps.toList) else decide (c ∈ y.cps.toList)))) s
    | _ => .bad
  | _, _ => .bad
def intT : D → S → Res R := fun d s => match d with
  | .str a => match PySem.intText? a with
    | some n => if a.length ≤ 640 then .ok (.sh (.int n)) s else .bad
    | none => .bad
  | _ => .bad
def repS (x : Str) (n : Int) : Str := ⟨(List.replicate n.toNat x.cps).foldl (· ++ ·) #[]⟩
/-- text * int -/
def mulST : R → R → S → Res R := fun r1 r2 s => match s.look r1, s.look r2 with
  | some (.str x), some (.int n) => if n = 0 then .ok (.sh (.str Str.empty)) s else if n = 1 then .ok (.sh (.str x)) s else if 2 ≤ n ∧ n ≤ 1000 ∧ 1 ≤ x.length ∧ x.length ≤ 1000 ∧ (repS x n).length ≤ sizeLine then .ok (.sh (.str (repS x n))) s else .bad
  | _, _ => .bad
def signs (x : Str) : List D := x.cps.toList.map fun c => PyData.str ⟨#[c]⟩
def strI (f : ES) : IS := fun s => (f s).bind fun r s1 => match s1.look r with
  | some (.str x) => .ok (signs x, []) s1
  | _ => .bad
section
variable {X : Cx} {W : WX} {tg e : Expr} {f : ES} {pos p : Pos} {K : PySem.W.Frag} {mg : Str → Option Value} {w : Wd} {s : S} {H : Hp} {Z : Addr → Prop} {σ : St} {Q : VK}
theorem dens_strs : ∀ ys : List Str, Dens K Z H (ys.map V.str) (ys.map PyData.str)
  | [] => .nil
  | y :: ys => .cons (.str y) (dens_strs ys)
theorem m_split : MtR X "str.split" (AtM X.K X.mg W splitR) := by
  intro pins s0 σ0 H x xs v us Q I rx rv ⟨σ, w, s, r, rs, hS, h1, h2, hp⟩
  unfold splitR at hp
  split at hp
  · rename_i a q ea
    obtain ⟨vq, rfl, hq⟩ := h2.one
    split at hp
    · rename_i b eb
      split at hp
      · rename_i hz
        have := (look_ok hS ea h1).str
        subst this
        have := (look_ok hS eb hq).str
        subst this
        exact mt_split pins s0 σ0 H _ _ v us Q I rx rv ⟨a, b, rfl, rfl, hz.1, hz.2, fun p hn => hp.new hS (Nat.le_refl _) (dens_strs _) hn⟩
      · exact hp.elim
    · exact hp.elim
  · exact hp.elim
theorem sign_eq {x : Str} {c : Nat} (h : x.cps.toList = [c]) : x = ⟨#[c]⟩ := by
  cases x with
  | mk a =>
    have : a = #[c] := by
      apply Array.toList_inj.mp
      exact h
    rw [this]
theorem oP_inS : OpS X W (compareOp .In) (inTS false) := by
  intro pins s0 σ0 H x y v u Q I rx ry ⟨σ, w, s, r1, r2, hS, h1, h2, hp⟩
  unfold inTS at hp
  split at hp
  · rename_i a b e1 e2
    split at hp
    · rename_i c ec
      have := (look_ok hS e1 h1).str
      subst this
      have := (look_ok hS e2 h2).str
      subst this
      exact op_in_sign pins s0 σ0 H _ _ v u Q I rx ry ⟨c, b, by rw [sign_eq ec], rfl, hp.sh hS (Nat.le_refl _) (.bl _)⟩
    · exact hp.elim
  · exact hp.elim
theorem oP_notInS : OpS X W (compareOp .NotIn) (inTS true) := by
  intro pins s0 σ0 H x y v u Q I rx ry ⟨σ, w, s, r1, r2, hS, h1, h2, hp⟩
  unfold inTS at hp
  split at hp
  · rename_i a b e1 e2
    split at hp
    · rename_i c ec
      have := (look_ok hS e1 h1).str
      subst this
      have := (look_ok hS e2 h2).str
      subst this
      exact op_notIn_sign pins s0 σ0 H _ _ v u Q I rx ry ⟨c, b, by rw [sign_eq ec], rfl, hp.sh hS (Nat.le_refl _) (.bl _)⟩
    · exact hp.elim
  · exact hp.elim
theorem c_intT : CallS X W (.type "int") (g1 intT) := cs1 fun pins s0 σ0 H v us Q σ w s d I r hS hd hp => by
  unfold intT at hp
  split at hp
  · rename_i a
    split at hp
    · rename_i n en
      split at hp
      · rename_i hz
        have := hd.str
        subst this
        exact call_int_str pins s0 σ0 H _ us Q I r ⟨a, n, rfl, en, hz, hp.sh hS (Nat.le_refl _) (.int _)⟩
      · exact hp.elim
    · exact hp.elim
  · exact hp.elim
theorem oP_mulStr : OpS X W (binaryOp .Mult) mulST := by
  intro pins s0 σ0 H x y v u Q I rx ry ⟨σ, w, s, r1, r2, hS, h1, h2, hp⟩
  unfold mulST at hp
  split at hp
  · rename_i a n e1 e2
    have := (look_ok hS e1 h1).str
    subst this
    have := (look_ok hS e2 h2).int
    subst this
    obtain ⟨t, rfl⟩ := rx
    obtain ⟨t', rfl⟩ := ry
    split at hp
    · rename_i hn
      subst hn
      exact PySem.P.mul_str_none (by decide) (by decide) ⟨.str Str.empty, H, I.tok _, ⟨_, rfl⟩, hp.sh hS (Nat.le_refl _) (.str _)⟩
    · split at hp
      · rename_i hn
        subst hn
        refine PySem.P.mul_str (by decide) (fun _ z => by simp at z) (fun _ z => by simp at z) ?_
        rw [if_neg (by decide), if_pos (by simp)]
        exact ⟨.str a, H, I, ⟨_, rfl⟩, hp.sh hS (Nat.le_refl _) (.str _)⟩
      · split at hp
        · rename_i h0 h1 hc
          obtain ⟨c1, c2, c3, c4, c5⟩ := hc
          have hs : a.length * n.toNat ≤ 1000000 := by
            have := Nat.mul_le_mul c4 (show n.toNat ≤ 1000 by omega)
            omega
          refine PySem.P.mul_str (by rw [decide_eq_false (by omega), decide_eq_false (by omega)]; rfl) (fun _ _ => ?_) (fun _ _ => ?_) ?_
          · have h1 : (a.length : Int) * n ≤ 1000 * 1000 := Int.le_trans (Int.mul_le_mul_of_nonneg_right (show (a.length : Int) ≤ 1000 by omega) (by omega)) (Int.mul_le_mul_of_nonneg_left c2 (by decide))
            have h2 : (a.length : Int) ≤ (2 ^ 63 - 1) / n := Int.le_ediv_of_mul_le (by omega) (by omega)
            omega
          · exact decide_eq_false (show ¬ a.length * n.toNat > sizeLine from fun z => absurd (Nat.lt_of_lt_of_le z hs) (by decide))
          · rw [if_neg (by omega), if_neg (by rw [Bool.or_eq_true, beq_iff_eq, beq_iff_eq]; omega)]
            exact ⟨c5, .str (repS a n), H, I.tok _, ⟨_, rfl⟩, hp.sh hS (Nat.le_refl _) (.str _)⟩
        · exact hp.elim
  · exact hp.elim
theorem it_str {w1 : Wd} {s1 : S} {H1 : Hp} (x : Str) : ItOk K mg (Its x) (signs x) w1 s1 H1 := by
  have hl : (signs x).length = x.cps.size := by unfold signs; rw [List.length_map, Array.length_toList]
  refine ⟨fun i w s σ H hS he hi => by show i < x.cps.size; omega, fun i w s σ H v H' hS he hi hy => ?_, fun i w s σ H hS he hi => by show x.cps.size ≤ i; omega⟩
  obtain ⟨rfl, c, hc, rfl⟩ := hy
  refine ⟨.str ⟨#[c]⟩, ?_, hS, Ext.refl (Nat.le_refl _), .str _⟩
  unfold signs
  rw [List.getElem?_map, Array.getElem?_toList, hc]
  rfl
theorem si_str (he : SE X W e f) : SI X W tg e (strI f) := by
  refine ⟨fun pins s0 σ H R I ⟨w, s, hS, h⟩ => (pi_str he).run pins s0 σ H R I ?_⟩
  unfold strI at h
  refine ⟨w, s, hS, Post.mono (Post.split h) fun w1 r s1 H1 _ _ ⟨hS1, e1, h1⟩ v hv => ?_⟩
  have h1 := h1 s1.ce.length e1.ln
  split at h1
  · rename_i x el
    have := (look_ok hS1 el hv).str
    subst this
    exact ⟨x, rfl, h1 w1 H1 hS1 (Ext.refl (Nat.le_refl _)) (fun c hc => by cases hc) _ (it_str x)⟩
  · exact h1.elim
end
end E
/-! ESD: a dict of texts that the top has written. -/
namespace E
open PySem PySem.Spec PyProof.Rows L2
def tabGet (tab : List (Str × Str)) (z : Str) : Option Str := (tab.find? fun p => p.1 == z).map (·.2)
/-- the top's dict x, texts to texts -/
def TabC (K : PySem.W.Frag) (w : World) (mg : Str → Option Value) (x : Str) (tab : List (Str × Str)) : Prop := ∃ d es n, mg x = some (.ref d) ∧ KDict K w d es n ∧
  ∀ z, (∀ v, tabGet tab z = some v → ∃ t, PySem.W.nsIn K d z = some (some (.str v t))) ∧ (tabGet tab z = none → PySem.W.nsIn K d z = some none)
def tabEnt (P : Params) (q : (Str × Str) × Tok × Tok) : DictEntry := ⟨PyData.keyHash P q.1.1, .str q.1.1 q.2.1, .str q.1.2 q.2.2⟩
theorem tab_lit (P : Params) : ∀ L : List ((Str × Str) × Tok × Tok), PySem.W.KeysLit P (L.map (tabEnt P))
  | [] => trivial
  | q :: L => ⟨⟨_, _, rfl, rfl⟩, tab_lit P L⟩
theorem tab_find (P : Params) (z : Str) : ∀ L : List ((Str × Str) × Tok × Tok), (∀ v, tabGet (L.map (·.1)) z = some v → ∃ e t, (L.map (tabEnt P)).find? (·.key.isStr z) = some e ∧ e.val = .str v t) ∧
    (tabGet (L.map (·.1)) z = none → (L.map (tabEnt P)).find? (·.key.isStr z) = none) ∧ (L.map (tabEnt P)).any (·.refKey) = false
  | [] => ⟨(fun v h => by cases h), (fun _ => rfl), rfl⟩
  | q :: L => by
    obtain ⟨h1, h2, h3⟩ := tab_find P z L
    have e0 : (tabEnt P q).key.isStr z = (q.1.1 == z) := rfl
    rw [List.map_cons, List.map_cons]
    unfold tabGet at *
    rw [List.find?_cons, List.find?_cons, e0]
    cases hb : (q.1.1 == z) with
    | true =>
      refine ⟨fun v h => ⟨tabEnt P q, q.2.2, rfl, ?_⟩, fun h => by simp at h, ?_⟩
      · have : q.1.2 = v := by simpa using h
        rw [← this]
        rfl
      · rw [List.any_cons, h3]; rfl
    | false =>
      refine ⟨fun v h => h1 v (by simpa using h), fun h => h2 (by simpa using h), ?_⟩
      rw [List.any_cons, h3]; rfl
theorem tab_of {K : PySem.W.Frag} {w : World} {mg : Str → Option Value} {x : Str} {d : Addr} {n : Nat} (L : List ((Str × Str) × Tok × Tok)) (hm : mg x = some (.ref d)) (hl : K.lookup d = some ⟨.type "dict", none, .dict (L.map (tabEnt w.params)).toArray n, #[]⟩) (h0 : (d == sysModules) = false) : TabC K w mg x (L.map (·.1)) := by
  refine ⟨d, _, n, hm, ⟨hl, tab_lit _ L, h0⟩, fun z => ?_⟩
  obtain ⟨h1, h2, h3⟩ := tab_find w.params z L
  unfold PySem.W.nsIn
  rw [hl]
  refine ⟨fun v hv => ?_, fun hv => ?_⟩
  · obtain ⟨e, t, q1, q2⟩ := h1 v hv
    exact ⟨t, by simp only []; rw [q1]; simp only [q2]⟩
  · simp only []
    rw [h2 hv, h3]
    rfl
/-- the sign or text is no key of the dict -/
def notTab (tab : List (Str × Str)) (f : ES) : ES := fun s => (f s).bind fun r s1 => match s1.look r with
  | some (.str z) => .ok (.sh (.bool (!(tabGet tab z).isSome))) s1
  | _ => .bad
def ixTab (tab : List (Str × Str)) (f : ES) : ES := fun s => (f s).bind fun r s1 => match s1.look r with
  | some (.str z) => match tabGet tab z with
    | some v => .ok (.sh (.str v)) s1
    | none => .bad
  | _ => .bad
section
variable {X : Cx} {W : WX} {e : Expr} {f : ES} {pos p : Pos} {x : Str} {tab : List (Str × Str)}
theorem pe_gref {d : Addr} (hg : Gl X x) (hm : X.mg x = some (.ref d)) (hdb : (x == ("__debug__" : Str)) = false := by decide) : PE X (.Name x p) (fun _ H Q => Q (.ref d) H) := ⟨fun _ _ _ _ _ I h => ld_glob I hg hm ⟨.ref d, _, I, rfl, h⟩ hdb⟩
theorem st_notTab (T : TabC X.K X.w X.mg x tab) (he : SE X W e f) (hg : Gl X x := by rfl) (hdb : (x == ("__debug__" : Str)) = false := by decide) (hm : behindInMarks .NotIn (.Name x p) = false := by rfl) : ST X W (.Compare e [.NotIn] [.Name x p] pos) (boolT (notTab tab f)) := by
  obtain ⟨d, es, n, hmg, D, hz⟩ := T
  refine pt_imp (pt_cmpR (op_notIn_kd D) he (pe_gref hg hmg hdb) hm) fun σ H Q h => ?_
  have h := boolT_at h fun _ _ q => q
  obtain ⟨w, s, hS, h⟩ := h
  refine ⟨w, s, hS, Post.mono (Post.split h) fun w1 r s1 H1 _ _ ⟨hS1, e1, h1⟩ v hv => ?_⟩
  have h1 := h1 s1.ce.length e1.ln
  split at h1
  · rename_i z el
    have := (look_ok hS1 el hv).str
    subst this
    cases hz' : tabGet tab z with
    | none =>
      refine ⟨z, none, rfl, rfl, (hz z).2 hz', ?_⟩
      rw [hz'] at h1
      exact h1.sh hS1 (Nat.le_refl _) (.bl _)
    | some y =>
      obtain ⟨t, ht⟩ := (hz z).1 y hz'
      refine ⟨z, _, rfl, rfl, ht, ?_⟩
      rw [hz'] at h1
      exact h1.sh hS1 (Nat.le_refl _) (.bl _)
  · exact h1.elim
theorem se_ixTab (T : TabC X.K X.w X.mg x tab) (he : SE X W e f) (hs : NoSl e) (hg : Gl X x := by rfl) (hdb : (x == ("__debug__" : Str)) = false := by decide) : SE X W (.Subscript (.Name x p) e pos) (ixTab tab f) := by
  obtain ⟨d, es, n, hmg, D, hz⟩ := T
  refine pe_imp (pe_ix ix_kdict (pe_gref hg hmg hdb) he hs) fun σ H Q ⟨w, s, hS, h⟩ => ?_
  refine ⟨w, s, hS, Post.mono (Post.split h) fun w1 r s1 H1 _ _ ⟨hS1, e1, h1⟩ v hv => ?_⟩
  have h1 := h1 s1.ce.length e1.ln
  split at h1
  · rename_i z el
    have := (look_ok hS1 el hv).str
    subst this
    split at h1
    · rename_i y hy
      obtain ⟨t, ht⟩ := (hz z).1 y hy
      exact ⟨d, z, .str y, rfl, rfl, ⟨es, n, _, D.at_, D.lit, ht, ⟨t, rfl⟩⟩, h1.sh hS1 (Nat.le_refl _) (.str _)⟩
    · exact h1.elim
  · exact h1.elim
end
end E
/-! ESU: x.count(y), x.index(y) of texts. -/
namespace E
open PySem PySem.Spec PyProof.Rows L2
def countR : R → List R → S → Res R := fun r rs s => match s.look r, rs with
  | some (.str a), [q] => match s.look q with
    | some (.str b) => .ok (.sh (.int (Txt.count a b))) s
    | _ => .bad
  | _, _ => .bad
def sIdx (a b : Str) : Option Int := match Builtin.Str.occurrences a b 0 a.length 1 with
  | k :: _ => some ((k : Nat) : Int)
  | [] => none
def sidxR : R → List R → S → Res R := fun r rs s => match s.look r, rs with
  | some (.str a), [q] => match s.look q with
    | some (.str b) => match sIdx a b with
      | some k => .ok (.sh (.int k)) s
      | none => .bad
    | _ => .bad
  | _, _ => .bad
section
variable {X : Cx} {W : WX}
end
end E
/-! V0: what a call gives, without the callee's own state. -/
namespace E
open PySem PySem.Spec PyProof.Rows L2

inductive Rv where
  | sh (d : D)
  | arg (i : Nat)
  | new (ds : List D)
  | exn (x : Ex)
  | nwd (ds : List (Key × D))
  | nwt (d : D)
/-- the result, and the argument lists behind the call -/
def outF (F : FT) (ps : List R) (io : List Cell) : Option (Rv × List Cell) := match F ps io with
  | .ok r s' => (match r with
    | .sh d => some (Rv.sh d)
    | .own c => if c < io.length then some (Rv.arg c) else (match s'.cellAt c with
      | .lv ds => some (Rv.new ds)
      | .fz ds => some (Rv.sh (.list ds))
      | .dv ds => some (Rv.nwd ds)
      | .tr d => some (Rv.nwt d)
      | _ => none)
    | .ex _ => none : Option Rv).map fun v => (v, (List.range io.length).map s'.cellAt)
  | .exc x s' => some (.exn x, (List.range io.length).map s'.cellAt)
  | .bad => none
def wbO : List Pa → List Cell → S → S
  | .io c x :: L, y :: io, s => wbO L io (s.put c (norm x y))
  | _ :: L, _ :: io, s => wbO L io s
  | _, _, s => s
def fineO (lent : Bool) : List Pa → List Cell → Bool
  | .io _ _ :: L, y :: io => (match y with
    | .dead => false
    | .tr _ => false
    | y => !lent || atomDs y.list) && fineO lent L io
  | _ :: L, _ :: io => fineO lent L io
  | _, _ => true
def retO (L : List Pa) (v : Rv) (io : List Cell) (s : S) : Res R :=
  if fineO (lentIn L) L io = true then (match v with
    | .sh d => if (!lentIn L || atomD d) = true then .ok (.sh d) (wbO L io s) else .bad
    | .arg c => (match L[c]? with
        | some (.io c' _) => .ok (.own c') (wbO L io s)
        | _ => .bad)
    | .new ds => if (!lentIn L || atomDs ds) = true then .ok (.own s.ce.length) ((wbO L io s).push (.lv ds)) else .bad
    | .nwd ds => if (!lentIn L || atomDs (ds.map (·.2))) = true then .ok (.own s.ce.length) ((wbO L io s).push (.dv ds)) else .bad
    | .nwt d => .ok (.own s.ce.length) ((wbO L io s).push (.tr d))
    | .exn _ => .bad)
  else .bad
section
variable {s s' : S}
theorem wb_eq : ∀ (L : List Pa) (i : Nat) (s : S), wb L i s' s = wbO L ((List.range' i L.length).map s'.cellAt) s
  | [], _, _ => rfl
  | pa :: L, i, s => by
    rw [List.length_cons, List.range'_succ, List.map_cons]
    cases pa with
    | io c x => unfold wb wbO; exact wb_eq L (i + 1) _
    | sh d => unfold wb wbO; exact wb_eq L (i + 1) _
    | lent c ds => unfold wb wbO; exact wb_eq L (i + 1) _
    | ex _ => unfold wb wbO; exact wb_eq L (i + 1) _
theorem fine_eq {b : Bool} : ∀ (L : List Pa) (i : Nat), ioFine b L i s' = fineO b L ((List.range' i L.length).map s'.cellAt)
  | [], _ => rfl
  | pa :: L, i => by
    rw [List.length_cons, List.range'_succ, List.map_cons]
    cases pa with
    | io c x =>
      unfold ioFine fineO
      rw [fine_eq L (i + 1)]
      cases s'.cellAt i <;> rfl
    | sh d => unfold ioFine fineO; exact fine_eq L (i + 1)
    | ex _ => unfold ioFine fineO; exact fine_eq L (i + 1)
    | lent c ds => unfold ioFine fineO; exact fine_eq L (i + 1)
theorem callD_eq (md : List Bool) (F : FT) (rs : List R) (s : S) : callD md F rs s = match passL s md rs with
    | some L => if apart L = true then (match outF F (psOf L) (ioOf L) with
      | some (v, io) => retO L v io s
      | none => .bad) else .bad
    | none => .bad := by
  unfold callD
  cases e : passL s md rs with
  | none => rfl
  | some L =>
    try dsimp only
    split
    · unfold outF
      cases eF : F (psOf L) (ioOf L) with
      | bad => rfl
      | exc x s' => unfold retO; simp only; split <;> rfl
      | ok r s' =>
        try dsimp only
        have hl : (ioOf L).length = L.length := io_len
        have e1 := wb_eq (s' := s') L 0 s
        have e2 := fine_eq (s' := s') (b := lentIn L) L 0
        rw [← List.range_eq_range'] at e1 e2
        unfold retR
        rw [hl]
        cases r with
        | sh d =>
          dsimp only [Option.map]
          unfold retO
          try dsimp only
          rw [e1, e2]
        | ex _ => dsimp only [Option.map]; split <;> rfl
        | own c =>
          try dsimp only
          by_cases hc : c < L.length
          · rw [if_pos hc]
            dsimp only [Option.map]
            unfold retO
            try dsimp only
            rw [if_pos hc, e1, e2]
            try rfl
          · rw [if_neg hc]
            cases ec : s'.cellAt c with
            | dead => dsimp only [Option.map]; rw [if_neg hc]; split <;> rfl
            | lk ds => dsimp only [Option.map]; rw [if_neg hc]; split <;> rfl
            | lv ds =>
              dsimp only [Option.map]
              unfold retO
              try dsimp only
              rw [if_neg hc, e1, e2]
            | dv ds =>
              dsimp only [Option.map]
              unfold retO
              try dsimp only
              rw [if_neg hc, e1, e2]
            | tr d =>
              dsimp only [Option.map]
              unfold retO
              try dsimp only
              rw [if_neg hc, e1, e2]
            | fz ds =>
              dsimp only [Option.map]
              unfold retO
              try dsimp only
              rw [if_neg hc, e1, e2]
              by_cases hf : fineO (lentIn L) L (List.map s'.cellAt (List.range L.length)) = true
              · rw [if_pos hf]
                show _ = ite _ _ _
                rw [if_pos hf]
                cases lentIn L <;> rfl
              · rw [if_neg hf]
                show _ = ite _ _ _
                rw [if_neg hf]
    · rfl
end
def idxD (d : D) (i : Int) (s : S) : Res R := idxR (.sh d) (.sh (.int i)) s
def rngO (g : List Int → S → Res (List D × List Nat)) (o : Option (List Int)) (s : S) : Res (List D × List Nat) := match o with
  | some is => g is s
  | none => .bad
theorem rngI_def (g : List Int → S → Res (List D × List Nat)) (f : AS) (s : S) : rngI g f s = (f s).bind fun rs s1 => rngO g (s1.ints rs) s1 := rfl
theorem rngO_some (g : List Int → S → Res (List D × List Nat)) (is : List Int) (s : S) : rngO g (some is) s = g is s := rfl
theorem rng1_eq {j : Int} {s : S} (h : small62 j) : rng1 [j] s = .ok (rngD 0 1 j.toNat, []) s := by
  unfold rng1
  exact if_pos h
theorem rng2_eq {i j : Int} {s : S} (h : small62 i) (h2 : small62 j) : rng2 [i, j] s = .ok (rngD i 1 (j - i).toNat, []) s := by
  unfold rng2
  exact if_pos ⟨h, h2⟩
/-- a turn of a loop that goes on -/
def turnS (g : Tg) (dr : List Nat) (body : SS) (d : D) (s : S) : Option S := match setT g d s with
  | none => none
  | some s1 => match body s1 with
    | .ok .nx s2 => some (s2.clean dr)
    | .ok .ct s2 => some (s2.clean dr)
    | _ => none
end E
/-! X0: states told by what the slots hold; the judgements. -/
namespace E
open PySem PySem.Spec PyProof.Rows L2

/-- what is known of a slot -/
inductive AV where
  | un
  | lo (ds : List D)
  | da (d : D)
  | ow (c : Cell)
  | ar
  | ex (x : Ex)
structure AE where
  sl : List AV
  io : List Cell
/-- a value under way -/
inductive RV where
  | da (d : D)
  | te (ds : List D)
  | va (i : Nat)
  | xc (x : Ex)
  | td (ds : List (Key × D))
  | tz (d : D)
def cellD : Cell → Option D
  | .dead => none
  | .lv ds => some (.list ds)
  | .fz ds => some (.list ds)
  | .lk ds => some (.list ds)
  | .dv _ => none
  | .tr _ => none
def AE.cell (a : AE) (i : Nat) : Option Cell := match a.sl[i]? with
  | some (.ow c) => some c
  | some .ar => a.io[i]?
  | _ => none
def AE.setC (a : AE) (i : Nat) (c : Cell) : AE := match a.sl[i]? with
  | some (.ow _) => ⟨a.sl.set i (.ow c), a.io⟩
  | some .ar => ⟨a.sl, a.io.set i c⟩
  | _ => a
def AE.val (a : AE) : RV → Option D
  | .da d => some d
  | .te ds => some (.list ds)
  | .va i => match a.sl[i]? with
    | some (.da d) => some d
    | some (.ow c) => cellD c
    | some .ar => (a.io[i]?).bind cellD
    | _ => none
  | .xc _ => none
  | .td _ => none
  | .tz _ => none
structure Abs (s : S) (a : AE) : Prop where
  np : s.np = a.io.length
  ln : s.sl.length = a.sl.length
  ge : s.base ≤ s.ce.length
  da : ∀ (i : Nat) (d : D), a.sl[i]? = some (.da d) → s.sl[i]? = some (some (.sh d))
  ow : ∀ (i : Nat) (c : Cell), a.sl[i]? = some (.ow c) → s.sl[i]? = some (some (.own (s.np + i))) ∧ s.cellAt (s.np + i) = c
  ar : ∀ (i : Nat), a.sl[i]? = some .ar → s.sl[i]? = some (some (.own i)) ∧ i < s.np
  io : ∀ (i : Nat) (c : Cell), a.io[i]? = some c → s.cellAt i = c
  hm : ∀ (i c : Nat), s.sl[i]? = some (some (.own c)) → c = s.np + i ∨ (c = i ∧ i < s.np)
  lk : ∀ (i : Nat) (ds : List D), i < s.sl.length → s.cellAt (s.np + i) = .lk ds → a.sl[i]? = some (.ow (.lk ds)) ∨ a.sl[i]? = some (.lo ds)
  lo : ∀ (i : Nat) (ds : List D), a.sl[i]? = some (.lo ds) → s.cellAt (s.np + i) = .lk ds
  ex : ∀ (i : Nat) (x : Ex), a.sl[i]? = some (.ex x) → s.sl[i]? = some (some (.ex x))
structure Fr (s s' : S) : Prop where
  np : s'.np = s.np
  sl : s'.sl = s.sl
  le : s.ce.length ≤ s'.ce.length
  tp : ∀ c, s.base ≤ c → c < s.ce.length → s'.cellAt c = s.cellAt c
def RRep (s : S) (r : R) : RV → Prop
  | .da d => r = .sh d
  | .te ds => ∃ c, r = .own c ∧ s.base ≤ c ∧ c < s.ce.length ∧ s.cellAt c = .lv ds
  | .va i => s.sl[i]? = some (some r)
  | .xc x => r = .ex x
  | .td ds => ∃ c, r = .own c ∧ s.base ≤ c ∧ c < s.ce.length ∧ s.cellAt c = .dv ds
  | .tz d => ∃ c, r = .own c ∧ s.base ≤ c ∧ c < s.ce.length ∧ s.cellAt c = .tr d
/-- a temporary list is a new one -/
def Nw (s : S) (r : R) : Prop := ∀ c, r = .own c → c < s.base ∨ s.ce.length ≤ c
section
variable {s s' s₂ : S} {a a' : AE} {r : R} {v : RV}
theorem Fr.base (h : Fr s s') : s'.base = s.base := by unfold S.base; rw [h.np, h.sl]
theorem Fr.refl : Fr s s := ⟨rfl, rfl, Nat.le_refl _, fun _ _ _ => rfl⟩
theorem Fr.trans (h : Fr s s') (k : Fr s' s₂) : Fr s s₂ := ⟨k.np.trans h.np, k.sl.trans h.sl, Nat.le_trans h.le k.le, fun c h1 h2 => (k.tp c (by rw [h.base]; exact h1) (Nat.lt_of_lt_of_le h2 h.le)).trans (h.tp c h1 h2)⟩
theorem RRep.fr (h : RRep s r v) (k : Fr s s') : RRep s' r v := by
  cases v with
  | da d => exact h
  | te ds => obtain ⟨c, h1, h2, h3, h4⟩ := h; exact ⟨c, h1, by rw [k.base]; exact h2, Nat.lt_of_lt_of_le h3 k.le, (k.tp c h2 h3).trans h4⟩
  | td ds => obtain ⟨c, h1, h2, h3, h4⟩ := h; exact ⟨c, h1, by rw [k.base]; exact h2, Nat.lt_of_lt_of_le h3 k.le, (k.tp c h2 h3).trans h4⟩
  | tz ds => obtain ⟨c, h1, h2, h3, h4⟩ := h; exact ⟨c, h1, by rw [k.base]; exact h2, Nat.lt_of_lt_of_le h3 k.le, (k.tp c h2 h3).trans h4⟩
  | va i => show s'.sl[i]? = _; rw [k.sl]; exact h
  | xc x => exact h
theorem cellAt_put {c c' : Nat} {x : Cell} : (s.put c x).cellAt c' = if c' = c ∧ c < s.ce.length then x else s.cellAt c' := by
  unfold S.cellAt S.put
  simp only [List.getElem?_set]
  by_cases h : c = c'
  · subst h
    by_cases hl : c < s.ce.length
    · simp [hl]
    · simp [hl]
  · simp [h, Ne.symm h]
theorem cellAt_push {c : Nat} {x : Cell} : (s.push x).cellAt c = if c = s.ce.length then x else s.cellAt c := by
  unfold S.cellAt S.push
  simp only
  by_cases h : c < s.ce.length
  · rw [List.getElem?_append_left h, if_neg (by omega)]
  · rw [List.getElem?_append_right (by omega)]
    by_cases h2 : c = s.ce.length
    · subst h2; simp
    · rw [if_neg h2, List.getElem?_eq_none (by simp; omega), List.getElem?_eq_none (by omega)]
theorem Abs.push (h : Abs s a) {x : Cell} (hx : ∀ ds, x ≠ .lk ds ∨ True) : Abs (s.push x) a where
  np := h.np
  ln := h.ln
  ge := by rw [push_len]; have := h.ge; show s.base ≤ _; omega
  da := h.da
  ow := fun i c e => by
    obtain ⟨e1, e2⟩ := h.ow i c e
    refine ⟨e1, ?_⟩
    have hi : i < s.sl.length := by have := (List.getElem?_eq_some_iff.mp e1).1; exact this
    rw [cellAt_push, if_neg]
    · exact e2
    · have := h.ge; unfold S.base at this; show ¬ s.np + i = _; omega
  ar := h.ar
  io := fun i c e => by
    have hi : i < a.io.length := (List.getElem?_eq_some_iff.mp e).1
    rw [cellAt_push, if_neg]
    · exact h.io i c e
    · have := h.ge; have := h.np; unfold S.base at *; omega
  hm := h.hm
  lk := fun i ds hi e => by
    rw [cellAt_push, if_neg] at e
    · exact h.lk i ds hi e
    · have := h.ge; unfold S.base at this; show ¬ s.np + i = _; have hi : i < s.sl.length := hi; omega
  lo := fun i ds e => by
    have hi : i < a.sl.length := (List.getElem?_eq_some_iff.mp e).1
    rw [cellAt_push, if_neg]
    · exact h.lo i ds e
    · have := h.ge; have := h.ln; unfold S.base at *; show ¬ s.np + i = _; omega
  ex := h.ex
theorem Fr.push {x : Cell} (h : Abs s a) : Fr s (s.push x) := ⟨rfl, rfl, by rw [push_len]; omega, fun c h1 h2 => by rw [cellAt_push, if_neg (by omega)]⟩
/-- a cell that is no slot's and no argument's may be anything -/
theorem Abs.put_te (h : Abs s a) {c : Nat} {x : Cell} (hc : s.base ≤ c) : Abs (s.put c x) a where
  np := h.np
  ln := h.ln
  ge := by rw [put_len]; exact h.ge
  da := h.da
  ow := fun i y e => by
    obtain ⟨e1, e2⟩ := h.ow i y e
    refine ⟨e1, ?_⟩
    have hi : i < s.sl.length := (List.getElem?_eq_some_iff.mp e1).1
    rw [cellAt_put, if_neg]
    · exact e2
    · rintro ⟨z, _⟩; have z : s.np + i = c := z; unfold S.base at hc; omega
  ar := h.ar
  io := fun i y e => by
    have hi : i < a.io.length := (List.getElem?_eq_some_iff.mp e).1
    rw [cellAt_put, if_neg]
    · exact h.io i y e
    · rintro ⟨z, _⟩; have := h.np; unfold S.base at hc; omega
  hm := h.hm
  lk := fun i ds hi e => by
    rw [cellAt_put, if_neg] at e
    · exact h.lk i ds hi e
    · rintro ⟨z, _⟩; have z : s.np + i = c := z; have hi : i < s.sl.length := hi; unfold S.base at hc; omega
  lo := fun i ds e => by
    have hi : i < a.sl.length := (List.getElem?_eq_some_iff.mp e).1
    rw [cellAt_put, if_neg]
    · exact h.lo i ds e
    · rintro ⟨z, _⟩; have z : s.np + i = c := z; have := h.ln; unfold S.base at hc; omega
  ex := h.ex
/-- the home of a variable's list -/
theorem Abs.home (h : Abs s a) {i : Nat} {c0 : Cell} (hc : a.cell i = some c0) : ∃ m, s.sl[i]? = some (some (.own m)) ∧ m < s.base ∧ s.cellAt m = c0 ∧ (m = s.np + i ∨ (m = i ∧ i < s.np)) := by
  unfold AE.cell at hc
  split at hc
  · rename_i c e
    cases hc
    obtain ⟨e1, e2⟩ := h.ow i _ e
    have hi : i < s.sl.length := (List.getElem?_eq_some_iff.mp e1).1
    exact ⟨s.np + i, e1, by unfold S.base; omega, e2, .inl rfl⟩
  · rename_i e
    obtain ⟨e1, e2⟩ := h.ar i e
    exact ⟨i, e1, by unfold S.base; omega, h.io i _ hc, .inr ⟨rfl, e2⟩⟩
  · cases hc
theorem Abs.put (h : Abs s a) {i m : Nat} {c0 c : Cell} (hc : a.cell i = some c0) (hm : s.sl[i]? = some (some (.own m))) (hk : ∀ ds, c = .lk ds → True) : Abs (s.put m c) (a.setC i c) := by
  have hle : m < s.ce.length := by
    obtain ⟨m', e1, e2, _, _⟩ := h.home hc
    rw [hm] at e1
    cases e1
    exact Nat.lt_of_lt_of_le e2 h.ge
  unfold AE.cell at hc
  split at hc
  · rename_i c1 e
    cases hc
    obtain ⟨e1, e2⟩ := h.ow i _ e
    rw [hm] at e1
    cases e1
    have hs : a.setC i c = ⟨a.sl.set i (.ow c), a.io⟩ := by unfold AE.setC; rw [e]
    have hi : i < a.sl.length := (List.getElem?_eq_some_iff.mp e).1
    rw [hs]
    have get : ∀ (j : Nat) (x : AV), (a.sl.set i (.ow c))[j]? = some x → (j = i ∧ x = .ow c) ∨ (j ≠ i ∧ a.sl[j]? = some x) := fun j x ej => by
      by_cases hj : i = j
      · subst hj; rw [List.getElem?_set_self hi] at ej; exact .inl ⟨rfl, (Option.some.inj ej).symm⟩
      · rw [List.getElem?_set_ne hj] at ej; exact .inr ⟨Ne.symm hj, ej⟩
    refine ⟨h.np, by show s.sl.length = _; simpa using h.ln, by rw [put_len]; exact h.ge, fun j d ej => ?_, fun j x ej => ?_, fun j ej => ?_, fun j x ej => ?_, h.hm, fun j ds hj ej => ?_, fun j ds ej => ?_, fun j x ej => (get j _ ej).elim (fun q => (nomatch q.2)) fun q => h.ex j x q.2⟩
    · rcases get j _ ej with ⟨_, z⟩ | ⟨_, ej⟩
      · cases z
      · exact h.da j d ej
    · rcases get j _ ej with ⟨rfl, z⟩ | ⟨hj, ej⟩
      · cases z
        exact ⟨hm, by rw [cellAt_put, if_pos ⟨rfl, hle⟩]⟩
      · obtain ⟨q1, q2⟩ := h.ow j x ej
        exact ⟨q1, by rw [cellAt_put, if_neg (by rintro ⟨z, _⟩; have z : s.np + j = s.np + i := z; omega)]; exact q2⟩
    · rcases get j _ ej with ⟨_, z⟩ | ⟨_, ej⟩
      · cases z
      · exact h.ar j ej
    · have hj : j < a.io.length := (List.getElem?_eq_some_iff.mp ej).1
      rw [cellAt_put, if_neg (by rintro ⟨z, _⟩; have := h.np; omega)]
      exact h.io j x ej
    · rw [cellAt_put] at ej
      by_cases hji : j = i
      · subst hji
        rw [if_pos ⟨rfl, hle⟩] at ej
        subst ej
        exact .inl (List.getElem?_set_self hi)
      · rw [if_neg (by rintro ⟨z, _⟩; have z : s.np + j = s.np + i := z; omega)] at ej
        rw [List.getElem?_set_ne (Ne.symm hji)]
        exact h.lk j ds hj ej
    · rcases get j _ ej with ⟨_, z⟩ | ⟨hj, ej⟩
      · cases z
      · rw [cellAt_put, if_neg (by rintro ⟨z, _⟩; have z : s.np + j = s.np + i := z; omega)]
        exact h.lo j ds ej
  · rename_i e
    obtain ⟨e1, e2⟩ := h.ar i e
    rw [hm] at e1
    cases e1
    have hs : a.setC i c = ⟨a.sl, a.io.set i c⟩ := by unfold AE.setC; rw [e]
    have hi : i < a.io.length := (List.getElem?_eq_some_iff.mp hc).1
    rw [hs]
    refine ⟨by show s.np = _; simpa using h.np, h.ln, by rw [put_len]; exact h.ge, h.da, fun j x ej => ?_, h.ar, fun j x ej => ?_, h.hm, fun j ds hj ej => ?_, fun j ds ej => ?_, h.ex⟩
    · obtain ⟨q1, q2⟩ := h.ow j x ej
      exact ⟨q1, by rw [cellAt_put, if_neg (by rintro ⟨z, _⟩; have z : s.np + j = i := z; omega)]; exact q2⟩
    · by_cases hj : i = j
      · subst hj
        have ej : (a.io.set i c)[i]? = some x := ej
        rw [List.getElem?_set_self hi] at ej
        cases ej
        rw [cellAt_put, if_pos ⟨rfl, hle⟩]
      · have ej : (a.io.set i c)[j]? = some x := ej
        rw [List.getElem?_set_ne hj] at ej
        rw [cellAt_put, if_neg (by rintro ⟨z, _⟩; exact hj z.symm)]
        exact h.io j x ej
    · rw [cellAt_put, if_neg (by rintro ⟨z, _⟩; have z : s.np + j = i := z; omega)] at ej
      exact h.lk j ds hj ej
    · rw [cellAt_put, if_neg (by rintro ⟨z, _⟩; have z : s.np + j = i := z; omega)]
      exact h.lo j ds ej
  · cases hc
theorem Fr.put {m : Nat} {c : Cell} (hm : m < s.base) : Fr s (s.put m c) := ⟨rfl, rfl, by rw [put_len]; exact Nat.le_refl _, fun d h1 _ => by rw [cellAt_put, if_neg (by rintro ⟨z, _⟩; omega)]⟩
theorem look_cell {c : Nat} : s.look (.own c) = cellD (s.cellAt c) := by
  unfold S.look
  cases e : s.cellAt c <;> simp only [e] <;> rfl
theorem look_of (h : Abs s a) (hr : RRep s r v) {d : D} (hd : a.val v = some d) : s.look r = some d := by
  cases v with
  | xc x => cases hd
  | da e =>
    have hr : r = .sh e := hr
    subst hr
    exact hd
  | te ds =>
    obtain ⟨c, rfl, _, _, h4⟩ := hr
    rw [look_cell, h4]
    exact hd
  | td ds =>
    obtain ⟨c, rfl, _, _, h4⟩ := hr
    rw [look_cell, h4]
    exact hd
  | tz ds =>
    obtain ⟨c, rfl, _, _, h4⟩ := hr
    rw [look_cell, h4]
    exact hd
  | va i =>
    have hr : s.sl[i]? = some (some r) := hr
    unfold AE.val at hd
    simp only at hd
    split at hd
    · rename_i d' e
      cases hd
      rw [h.da i _ e] at hr
      cases hr
      rfl
    · rename_i c e
      obtain ⟨e1, e2⟩ := h.ow i c e
      rw [e1] at hr
      cases hr
      rw [look_cell, e2]
      exact hd
    · rename_i e
      obtain ⟨e1, e2⟩ := h.ar i e
      rw [e1] at hr
      cases hr
      cases q : a.io[i]? with
      | none => rw [q] at hd; cases hd
      | some c =>
        rw [q] at hd
        rw [look_cell, h.io i c q]
        exact hd
    · cases hd
end
/-- an expression gives v, and leaves a' -/
def J (f : ES) (a : AE) (v : RV) (a' : AE) : Prop := ∀ s, Abs s a → ∃ r s', f s = .ok r s' ∧ RRep s' r v ∧ Nw s r ∧ Abs s' a' ∧ Fr s s'
/-- several -/
inductive RReps (s : S) : List R → List RV → Prop
  | nil : RReps s [] []
  | cons {r : R} {v : RV} {rs : List R} {vs : List RV} : RRep s r v → RReps s rs vs → (∀ c, r = .own c → s.base ≤ c → R.own c ∉ rs) → RReps s (r :: rs) (v :: vs)
def JA (t : AS) (a : AE) (vs : List RV) (a' : AE) : Prop := ∀ s, Abs s a → ∃ rs s', t s = .ok rs s' ∧ RReps s' rs vs ∧ (∀ r ∈ rs, Nw s r) ∧ Abs s' a' ∧ Fr s s'
/-- a test -/
def JT (u : TS') (a : AE) (b : Bool) (a' : AE) : Prop := ∀ s, Abs s a → ∃ s', u s = .ok b s' ∧ Abs s' a' ∧ Fr s s'
section
variable {s s' s₂ : S} {a a' a1 a2 a3 : AE} {r : R} {v v1 v2 v3 : RV} {f f1 f2 f3 : ES} {t : AS} {vs : List RV} {d d1 d2 d3 : D}
theorem RReps.fr (k : Fr s s') : ∀ {rs : List R} {vs : List RV}, RReps s rs vs → RReps s' rs vs
  | _, _, .nil => .nil
  | _, _, .cons h1 h2 h3 => .cons (h1.fr k) (RReps.fr k h2) fun c e hb => h3 c e (by rw [← k.base]; exact hb)
theorem RRep.lt (h : Abs s a) (hr : RRep s r v) {c : Nat} (e : r = .own c) : c < s.ce.length := by
  subst e
  cases v with
  | xc x => cases hr
  | da d => cases hr
  | te ds => obtain ⟨c', h1, _, h3, _⟩ := hr; cases h1; exact h3
  | td ds => obtain ⟨c', h1, _, h3, _⟩ := hr; cases h1; exact h3
  | tz ds => obtain ⟨c', h1, _, h3, _⟩ := hr; cases h1; exact h3
  | va i =>
    have hr : s.sl[i]? = some (some (.own c)) := hr
    have hi : i < s.sl.length := (List.getElem?_eq_some_iff.mp hr).1
    have := h.ge
    rcases h.hm i c hr with q | ⟨q, _⟩ <;> unfold S.base at this <;> omega
theorem ja_nil : JA nilA a [] a := fun s h => ⟨[], s, rfl, .nil, fun _ q => by simp at q, h, .refl⟩
theorem ja_cons (h1 : J f a v a1) (h2 : JA t a1 vs a2) : JA (consA f t) a (v :: vs) a2 := fun s h => by
  obtain ⟨r, s1, e1, r1, n1, b1, k1⟩ := h1 s h
  obtain ⟨rs, s2, e2, r2, n2, b2, k2⟩ := h2 s1 b1
  refine ⟨r :: rs, s2, by unfold consA; rw [e1, Res.bind_ok, e2, Res.bind_ok], .cons (r1.fr k2) r2 (fun c e hb hm => ?_), fun q hq => ?_, b2, k1.trans k2⟩
  · have lt := r1.lt b1 e
    rcases n2 _ hm c rfl with q | q
    · rw [k2.base] at hb; omega
    · omega
  · rcases List.mem_cons.mp hq with rfl | hq
    · exact n1
    · exact fun c e => (n2 q hq c e).imp (fun z => by rw [← k1.base]; exact z) fun z => Nat.le_trans k1.le z
/-! ### expressions that read -/
theorem j_lit : J (litS d) a (.da d) a := fun s h => ⟨_, s, rfl, rfl, fun _ e => (by cases e), h, .refl⟩
theorem j_varD {i : Nat} (e : a.sl[i]? = some (.da d)) : J (varS i) a (.da d) a := fun s h => ⟨.sh d, s, by unfold varS; rw [h.da i d e], rfl, fun _ e => (by cases e), h, .refl⟩
theorem j_var {i : Nat} {c : Cell} (e : a.cell i = some c) : J (varS i) a (.va i) a := fun s h => by
  obtain ⟨m, e1, e2, _, _⟩ := h.home e
  exact ⟨.own m, s, by unfold varS; rw [e1], e1, fun c e => (by cases e; exact .inl e2), h, .refl⟩
/-- an operation that reads two -/
def Rd2 (g : R → R → S → Res R) (d1 d2 d3 : D) : Prop := ∀ r1 r2 s, s.look r1 = some d1 → s.look r2 = some d2 → g r1 r2 s = .ok (.sh d3) s
def Rd1 (g : R → S → Res R) (d1 d3 : D) : Prop := ∀ r1 s, s.look r1 = some d1 → g r1 s = .ok (.sh d3) s
/-- .. and gives a new list -/
def Mk2 (g : R → R → S → Res R) (d1 d2 : D) (ds : List D) : Prop := ∀ r1 r2 s, s.look r1 = some d1 → s.look r2 = some d2 → g r1 r2 s = .ok (.own s.ce.length) (s.push (.lv ds))
def Mk1 (g : R → S → Res R) (d1 : D) (ds : List D) : Prop := ∀ r1 s, s.look r1 = some d1 → g r1 s = .ok (.own s.ce.length) (s.push (.lv ds))
theorem new_ok (h : Abs s a) (ds : List D) : RRep (s.push (.lv ds)) (.own s.ce.length) (.te ds) ∧ Abs (s.push (.lv ds)) a ∧ Fr s (s.push (.lv ds)) :=
  ⟨⟨_, rfl, h.ge, by rw [push_len]; omega, by rw [cellAt_push, if_pos rfl]⟩, h.push (fun _ => .inr trivial), .push h⟩
theorem j_two {g : R → R → S → Res R} (h1 : J f1 a v1 a1) (h2 : J f2 a1 v2 a2) (q1 : a2.val v1 = some d1) (q2 : a2.val v2 = some d2) (hg : Rd2 g d1 d2 d3) : J (bin2 g f1 f2) a (.da d3) a2 := fun s h => by
  obtain ⟨r1, s1, e1, p1, n1, b1, k1⟩ := h1 s h
  obtain ⟨r2, s2, e2, p2, n2, b2, k2⟩ := h2 s1 b1
  refine ⟨.sh d3, s2, ?_, rfl, fun _ e => (by cases e), b2, k1.trans k2⟩
  unfold bin2
  rw [e1, Res.bind_ok, e2, Res.bind_ok]
  exact hg _ _ _ (look_of b2 (p1.fr k2) q1) (look_of b2 p2 q2)
theorem new_okD (h : Abs s a) (ds : List (Key × D)) : RRep (s.push (.dv ds)) (.own s.ce.length) (.td ds) ∧ Abs (s.push (.dv ds)) a ∧ Fr s (s.push (.dv ds)) :=
  ⟨⟨_, rfl, h.ge, by rw [push_len]; omega, by rw [cellAt_push, if_pos rfl]⟩, h.push (fun _ => .inr trivial), .push h⟩
theorem new_okT (h : Abs s a) (d : D) : RRep (s.push (.tr d)) (.own s.ce.length) (.tz d) ∧ Abs (s.push (.tr d)) a ∧ Fr s (s.push (.tr d)) :=
  ⟨⟨_, rfl, h.ge, by rw [push_len]; omega, by rw [cellAt_push, if_pos rfl]⟩, h.push (fun _ => .inr trivial), .push h⟩
theorem j_one {g : R → S → Res R} (h1 : J f1 a v1 a1) (q1 : a1.val v1 = some d1) (hg : Rd1 g d1 d3) : J (un1 g f1) a (.da d3) a1 := fun s h => by
  obtain ⟨r1, s1, e1, p1, n1, b1, k1⟩ := h1 s h
  refine ⟨.sh d3, s1, ?_, rfl, fun _ e => (by cases e), b1, k1⟩
  unfold un1
  rw [e1, Res.bind_ok]
  exact hg _ _ (look_of b1 p1 q1)
theorem j_g1 {o : D → S → Res R} (h1 : J f1 a v1 a1) (q1 : a1.val v1 = some d1) (hg : ∀ s, o d1 s = .ok (.sh d3) s) : J (callG (g1 o) (consA f1 nilA)) a (.da d3) a1 := fun s h => by
  obtain ⟨r1, s1, e1, p1, n1, b1, k1⟩ := h1 s h
  refine ⟨.sh d3, s1, ?_, rfl, fun _ e => (by cases e), b1, k1⟩
  unfold callG consA nilA g1
  rw [e1, Res.bind_ok, Res.bind_ok, Res.bind_ok]
  simp only [look_of b1 p1 q1, hg]
theorem j_g1N {o : D → S → Res R} {ds : List D} (h1 : J f1 a v1 a1) (q1 : a1.val v1 = some d1) (hg : ∀ s, o d1 s = .ok (.own s.ce.length) (s.push (.lv ds))) : J (callG (g1 o) (consA f1 nilA)) a (.te ds) a1 := fun s h => by
  obtain ⟨r1, s1, e1, p1, n1, b1, k1⟩ := h1 s h
  obtain ⟨z1, z2, z3⟩ := new_ok b1 ds
  refine ⟨.own s1.ce.length, _, ?_, z1, fun c e => (by cases e; exact .inr k1.le), z2, k1.trans z3⟩
  unfold callG consA nilA g1
  rw [e1, Res.bind_ok, Res.bind_ok, Res.bind_ok]
  simp only [look_of b1 p1 q1, hg]
theorem j_g2 {o : D → D → S → Res R} (h1 : J f1 a v1 a1) (h2 : J f2 a1 v2 a2) (q1 : a2.val v1 = some d1) (q2 : a2.val v2 = some d2) (hg : ∀ s, o d1 d2 s = .ok (.sh d3) s) : J (callG (g2 o) (consA f1 (consA f2 nilA))) a (.da d3) a2 := fun s h => by
  obtain ⟨r1, s1, e1, p1, n1, b1, k1⟩ := h1 s h
  obtain ⟨r2, s2, e2, p2, n2, b2, k2⟩ := h2 s1 b1
  refine ⟨.sh d3, s2, ?_, rfl, fun _ e => (by cases e), b2, k1.trans k2⟩
  unfold callG consA nilA g2
  simp only [e1, e2, Res.bind_ok, look_of b2 (p1.fr k2) q1, look_of b2 p2 q2, hg]
end
end E
/-! X1: typed values; rules of expressions. -/
namespace E
open PySem PySem.Spec PyProof.Rows L2

/-! ### typed values as data -/
class Enc (α : Type) where
  enc : α → D
abbrev enc {α : Type} [i : Enc α] : α → D := i.enc
structure T1 (α : Type) where
  a : α
structure T2 (α β : Type) where
  a : α
  b : β
structure T3 (α β γ : Type) where
  a : α
  b : β
  c : γ
structure T4 (α β γ δ : Type) where
  a : α
  b : β
  c : γ
  d : δ
structure T5 (α β γ δ ε : Type) where
  a : α
  b : β
  c : γ
  d : δ
  e : ε
structure T6 (α β γ δ ε ζ : Type) where
  a : α
  b : β
  c : γ
  d : δ
  e : ε
  f : ζ
instance {α : Type} [DecidableEq α] : DecidableEq (T1 α) := fun x y => decidable_of_iff (x.a = y.a) (by cases x; cases y; simp)
instance {α : Type} [Inhabited α] : Inhabited (T1 α) := ⟨⟨default⟩⟩
@[reducible] instance {α : Type} [Enc α] : Enc (T1 α) := ⟨fun x => .tuple [enc x.a]⟩
instance {α β : Type} [DecidableEq α] [DecidableEq β] : DecidableEq (T2 α β) := fun x y => decidable_of_iff (x.a = y.a ∧ x.b = y.b) (by cases x; cases y; simp)
instance {α β : Type} [Inhabited α] [Inhabited β] : Inhabited (T2 α β) := ⟨⟨default, default⟩⟩
@[reducible] instance {α β : Type} [Enc α] [Enc β] : Enc (T2 α β) := ⟨fun x => .tuple [enc x.a, enc x.b]⟩
instance {α β γ : Type} [DecidableEq α] [DecidableEq β] [DecidableEq γ] : DecidableEq (T3 α β γ) := fun x y => decidable_of_iff (x.a = y.a ∧ x.b = y.b ∧ x.c = y.c) (by cases x; cases y; simp)
instance {α β γ : Type} [Inhabited α] [Inhabited β] [Inhabited γ] : Inhabited (T3 α β γ) := ⟨⟨default, default, default⟩⟩
@[reducible] instance {α β γ : Type} [Enc α] [Enc β] [Enc γ] : Enc (T3 α β γ) := ⟨fun x => .tuple [enc x.a, enc x.b, enc x.c]⟩
instance {α β γ δ : Type} [DecidableEq α] [DecidableEq β] [DecidableEq γ] [DecidableEq δ] : DecidableEq (T4 α β γ δ) := fun x y => decidable_of_iff (x.a = y.a ∧ x.b = y.b ∧ x.c = y.c ∧ x.d = y.d) (by cases x; cases y; simp)
instance {α β γ δ : Type} [Inhabited α] [Inhabited β] [Inhabited γ] [Inhabited δ] : Inhabited (T4 α β γ δ) := ⟨⟨default, default, default, default⟩⟩
@[reducible] instance {α β γ δ : Type} [Enc α] [Enc β] [Enc γ] [Enc δ] : Enc (T4 α β γ δ) := ⟨fun x => .tuple [enc x.a, enc x.b, enc x.c, enc x.d]⟩
instance {α β γ δ ε : Type} [DecidableEq α] [DecidableEq β] [DecidableEq γ] [DecidableEq δ] [DecidableEq ε] : DecidableEq (T5 α β γ δ ε) := fun x y => decidable_of_iff (x.a = y.a ∧ x.b = y.b ∧ x.c = y.c ∧ x.d = y.d ∧ x.e = y.e) (by cases x; cases y; simp)
instance {α β γ δ ε : Type} [Inhabited α] [Inhabited β] [Inhabited γ] [Inhabited δ] [Inhabited ε] : Inhabited (T5 α β γ δ ε) := ⟨⟨default, default, default, default, default⟩⟩
@[reducible] instance {α β γ δ ε : Type} [Enc α] [Enc β] [Enc γ] [Enc δ] [Enc ε] : Enc (T5 α β γ δ ε) := ⟨fun x => .tuple [enc x.a, enc x.b, enc x.c, enc x.d, enc x.e]⟩
instance {α β γ δ ε ζ : Type} [DecidableEq α] [DecidableEq β] [DecidableEq γ] [DecidableEq δ] [DecidableEq ε] [DecidableEq ζ] : DecidableEq (T6 α β γ δ ε ζ) := fun x y => decidable_of_iff (x.a = y.a ∧ x.b = y.b ∧ x.c = y.c ∧ x.d = y.d ∧ x.e = y.e ∧ x.f = y.f) (by cases x; cases y; simp)
instance {α β γ δ ε ζ : Type} [Inhabited α] [Inhabited β] [Inhabited γ] [Inhabited δ] [Inhabited ε] [Inhabited ζ] : Inhabited (T6 α β γ δ ε ζ) := ⟨⟨default, default, default, default, default, default⟩⟩
@[reducible] instance {α β γ δ ε ζ : Type} [Enc α] [Enc β] [Enc γ] [Enc δ] [Enc ε] [Enc ζ] : Enc (T6 α β γ δ ε ζ) := ⟨fun x => .tuple [enc x.a, enc x.b, enc x.c, enc x.d, enc x.e, enc x.f]⟩
@[reducible] instance : Enc Int := ⟨.int⟩
@[reducible] instance : Enc Bool := ⟨.bool⟩
@[reducible] instance : Enc Str := ⟨.str⟩
@[reducible] instance : Enc Unit := ⟨fun _ => .none⟩
@[reducible] instance : Enc D := ⟨id⟩
@[reducible] instance {α : Type} [Enc α] : Enc (List α) := ⟨fun xs => .list (xs.map enc)⟩
@[reducible] instance {α : Type} [Enc α] : Enc (Option α) := ⟨fun x => match x with
  | none => .none
  | some y => enc y⟩
/-- data that hold no list -/
class AtE (α : Type) [Enc α] : Prop where
  at_ : ∀ x : α, atomD (enc x) = true
instance : AtE Int := ⟨fun _ => rfl⟩
instance : AtE Bool := ⟨fun _ => rfl⟩
instance : AtE Str := ⟨fun _ => rfl⟩
instance : AtE Unit := ⟨fun _ => rfl⟩
instance {α : Type} [Enc α] [h : AtE α] : AtE (Option α) := ⟨fun x => by cases x; exact rfl; exact h.at_ _⟩
instance {α : Type} [Enc α] [AtE α] : AtE (T1 α) := ⟨fun x => by show (atomDs [enc x.a]) = true; simp [atomDs, AtE.at_ (α := α)]⟩
instance {α β : Type} [Enc α] [AtE α] [Enc β] [AtE β] : AtE (T2 α β) := ⟨fun x => by show (atomDs [enc x.a, enc x.b]) = true; simp [atomDs, AtE.at_ (α := α), AtE.at_ (α := β)]⟩
instance {α β γ : Type} [Enc α] [AtE α] [Enc β] [AtE β] [Enc γ] [AtE γ] : AtE (T3 α β γ) := ⟨fun x => by show (atomDs [enc x.a, enc x.b, enc x.c]) = true; simp [atomDs, AtE.at_ (α := α), AtE.at_ (α := β), AtE.at_ (α := γ)]⟩
instance {α β γ δ : Type} [Enc α] [AtE α] [Enc β] [AtE β] [Enc γ] [AtE γ] [Enc δ] [AtE δ] : AtE (T4 α β γ δ) := ⟨fun x => by show (atomDs [enc x.a, enc x.b, enc x.c, enc x.d]) = true; simp [atomDs, AtE.at_ (α := α), AtE.at_ (α := β), AtE.at_ (α := γ), AtE.at_ (α := δ)]⟩
instance {α β γ δ ε : Type} [Enc α] [AtE α] [Enc β] [AtE β] [Enc γ] [AtE γ] [Enc δ] [AtE δ] [Enc ε] [AtE ε] : AtE (T5 α β γ δ ε) := ⟨fun x => by show (atomDs [enc x.a, enc x.b, enc x.c, enc x.d, enc x.e]) = true; simp [atomDs, AtE.at_ (α := α), AtE.at_ (α := β), AtE.at_ (α := γ), AtE.at_ (α := δ), AtE.at_ (α := ε)]⟩
instance {α β γ δ ε ζ : Type} [Enc α] [AtE α] [Enc β] [AtE β] [Enc γ] [AtE γ] [Enc δ] [AtE δ] [Enc ε] [AtE ε] [Enc ζ] [AtE ζ] : AtE (T6 α β γ δ ε ζ) := ⟨fun x => by show (atomDs [enc x.a, enc x.b, enc x.c, enc x.d, enc x.e, enc x.f]) = true; simp [atomDs, AtE.at_ (α := α), AtE.at_ (α := β), AtE.at_ (α := γ), AtE.at_ (α := δ), AtE.at_ (α := ε), AtE.at_ (α := ζ)]⟩
theorem atE_list {α : Type} [Enc α] [h : AtE α] : ∀ xs : List α, atomDs (xs.map enc) = true
  | [] => rfl
  | x :: xs => by rw [List.map_cons, atomDs, h.at_ x, atE_list xs]; rfl
/-- data that == can tell apart -/
class ShE (α : Type) [Enc α] (k : outParam Nat) : Prop where
  lay : ∀ x : α, (enc x).canLay0 = true
  dep : ∀ x : α, (enc x).depth ≤ k
instance : ShE Int 0 := ⟨fun _ => rfl, fun _ => Nat.le_refl _⟩
instance : ShE Bool 0 := ⟨fun _ => rfl, fun _ => Nat.le_refl _⟩
instance : ShE Unit 0 := ⟨fun _ => rfl, fun _ => Nat.le_refl _⟩
instance {α : Type} {k : Nat} [Enc α] [h : ShE α k] : ShE (Option α) k := ⟨fun x => by cases x; exact rfl; exact h.lay _, fun x => by cases x; exact Nat.zero_le _; exact h.dep _⟩
theorem lay_list {α : Type} {k : Nat} [Enc α] [h : ShE α k] : ∀ xs : List α, PyData.canLayAll0 (xs.map enc) = true
  | [] => rfl
  | x :: xs => by rw [List.map_cons, PyData.canLayAll0, h.lay x, lay_list xs]; rfl
theorem dep_list {α : Type} {k : Nat} [Enc α] [h : ShE α k] : ∀ xs : List α, PyData.depthAll (xs.map enc) ≤ k
  | [] => Nat.zero_le _
  | x :: xs => by rw [List.map_cons, PyData.depthAll]; have := h.dep x; have := dep_list xs; omega
instance {α : Type} {k : Nat} [Enc α] [h : ShE α k] : ShE (List α) (k + 1) := ⟨fun x => by show PyData.canLay0 (.list _) = true; rw [PyData.canLay0]; exact lay_list x, fun x => by show PyData.depth (.list _) ≤ _; rw [PyData.depth]; exact Nat.succ_le_succ (dep_list x)⟩
instance {α : Type} {k0 : Nat} [Enc α] [h0 : ShE α k0] : ShE (T1 α) ((max k0 0) + 1) := ⟨fun x => by show PyData.canLay0 (.tuple _) = true; simp only [PyData.canLay0, PyData.canLayAll0, h0.lay, Bool.and_self], fun x => by show PyData.depth (.tuple _) ≤ _; simp only [PyData.depth, PyData.depthAll]; have := h0.dep x.a; omega⟩
instance {α β : Type} {k0 k1 : Nat} [Enc α] [h0 : ShE α k0] [Enc β] [h1 : ShE β k1] : ShE (T2 α β) ((max k0 (max k1 0)) + 1) := ⟨fun x => by show PyData.canLay0 (.tuple _) = true; simp only [PyData.canLay0, PyData.canLayAll0, h0.lay, h1.lay, Bool.and_self], fun x => by show PyData.depth (.tuple _) ≤ _; simp only [PyData.depth, PyData.depthAll]; have := h0.dep x.a; have := h1.dep x.b; omega⟩
instance {α β γ : Type} {k0 k1 k2 : Nat} [Enc α] [h0 : ShE α k0] [Enc β] [h1 : ShE β k1] [Enc γ] [h2 : ShE γ k2] : ShE (T3 α β γ) ((max k0 (max k1 (max k2 0))) + 1) := ⟨fun x => by show PyData.canLay0 (.tuple _) = true; simp only [PyData.canLay0, PyData.canLayAll0, h0.lay, h1.lay, h2.lay, Bool.and_self], fun x => by show PyData.depth (.tuple _) ≤ _; simp only [PyData.depth, PyData.depthAll]; have := h0.dep x.a; have := h1.dep x.b; have := h2.dep x.c; omega⟩
instance {α β γ δ : Type} {k0 k1 k2 k3 : Nat} [Enc α] [h0 : ShE α k0] [Enc β] [h1 : ShE β k1] [Enc γ] [h2 : ShE γ k2] [Enc δ] [h3 : ShE δ k3] : ShE (T4 α β γ δ) ((max k0 (max k1 (max k2 (max k3 0)))) + 1) := ⟨fun x => by show PyData.canLay0 (.tuple _) = true; simp only [PyData.canLay0, PyData.canLayAll0, h0.lay, h1.lay, h2.lay, h3.lay, Bool.and_self], fun x => by show PyData.depth (.tuple _) ≤ _; simp only [PyData.depth, PyData.depthAll]; have := h0.dep x.a; have := h1.dep x.b; have := h2.dep x.c; have := h3.dep x.d; omega⟩
instance {α β γ δ ε : Type} {k0 k1 k2 k3 k4 : Nat} [Enc α] [h0 : ShE α k0] [Enc β] [h1 : ShE β k1] [Enc γ] [h2 : ShE γ k2] [Enc δ] [h3 : ShE δ k3] [Enc ε] [h4 : ShE ε k4] : ShE (T5 α β γ δ ε) ((max k0 (max k1 (max k2 (max k3 (max k4 0))))) + 1) := ⟨fun x => by show PyData.canLay0 (.tuple _) = true; simp only [PyData.canLay0, PyData.canLayAll0, h0.lay, h1.lay, h2.lay, h3.lay, h4.lay, Bool.and_self], fun x => by show PyData.depth (.tuple _) ≤ _; simp only [PyData.depth, PyData.depthAll]; have := h0.dep x.a; have := h1.dep x.b; have := h2.dep x.c; have := h3.dep x.d; have := h4.dep x.e; omega⟩
instance {α β γ δ ε ζ : Type} {k0 k1 k2 k3 k4 k5 : Nat} [Enc α] [h0 : ShE α k0] [Enc β] [h1 : ShE β k1] [Enc γ] [h2 : ShE γ k2] [Enc δ] [h3 : ShE δ k3] [Enc ε] [h4 : ShE ε k4] [Enc ζ] [h5 : ShE ζ k5] : ShE (T6 α β γ δ ε ζ) ((max k0 (max k1 (max k2 (max k3 (max k4 (max k5 0)))))) + 1) := ⟨fun x => by show PyData.canLay0 (.tuple _) = true; simp only [PyData.canLay0, PyData.canLayAll0, h0.lay, h1.lay, h2.lay, h3.lay, h4.lay, h5.lay, Bool.and_self], fun x => by show PyData.depth (.tuple _) ≤ _; simp only [PyData.depth, PyData.depthAll]; have := h0.dep x.a; have := h1.dep x.b; have := h2.dep x.c; have := h3.dep x.d; have := h4.dep x.e; have := h5.dep x.f; omega⟩
theorem shE {α : Type} {k : Nat} [Enc α] [h : ShE α k] (x : α) (hk : k ≤ 64 := by decide) : SeqAt.shaped (enc x) = true := by
  unfold SeqAt.shaped
  rw [h.lay x, Bool.true_and]
  exact decide_eq_true (Nat.le_trans (h.dep x) hk)
theorem eq_ok {α β : Type} {k l : Nat} [Enc α] [Enc β] [ShE α k] [ShE β l] (x : α) (y : β) (hk : k ≤ 64 := by decide) (hl : l ≤ 64 := by decide) : eqOk (enc x) (enc y) = true := by
  unfold eqOk
  rw [shE x hk, shE y hl]
  simp
/-- == is equality -/
class EqE (α : Type) [Enc α] [DecidableEq α] : Prop where
  eq : ∀ x y : α, PyData.eqv (enc x) (enc y) = decide (x = y)
theorem eqv_int (i j : Int) : PyData.eqv (.int i) (.int j) = decide (i = j) := by rw [PyData.eqv]; rfl
theorem eqv_str (i j : Str) : PyData.eqv (.str i) (.str j) = decide (i = j) := by rw [PyData.eqv]; rfl
instance : EqE Int := ⟨eqv_int⟩
instance : EqE Bool := ⟨fun x y => by show PyData.eqv (.bool x) (.bool y) = _; rw [PyData.eqv]; rfl⟩
instance : EqE Str := ⟨eqv_str⟩
instance : EqE Unit := ⟨fun x y => rfl⟩
theorem eqv_list {α : Type} [Enc α] [DecidableEq α] [h : EqE α] : ∀ xs ys : List α, PyData.eqvAll (xs.map enc) (ys.map enc) = decide (xs = ys)
  | [], [] => rfl
  | [], _ :: _ => rfl
  | _ :: _, [] => rfl
  | x :: xs, y :: ys => by
    rw [List.map_cons, List.map_cons, PyData.eqvAll, h.eq, eqv_list xs ys]
    simp [List.cons.injEq]
instance {α : Type} [Enc α] [DecidableEq α] [h : EqE α] : EqE (List α) := ⟨fun x y => by show PyData.eqv (.list _) (.list _) = _; rw [PyData.eqv]; exact eqv_list x y⟩
instance {α : Type} [Enc α] [DecidableEq α] [h0 : EqE α] : EqE (T1 α) := ⟨fun x y => by cases x; cases y; show PyData.eqv (.tuple _) (.tuple _) = _; simp only [PyData.eqv, PyData.eqvAll, h0.eq, T1.mk.injEq, Bool.and_true, Bool.decide_and]⟩
instance {α β : Type} [Enc α] [DecidableEq α] [h0 : EqE α] [Enc β] [DecidableEq β] [h1 : EqE β] : EqE (T2 α β) := ⟨fun x y => by cases x; cases y; show PyData.eqv (.tuple _) (.tuple _) = _; simp only [PyData.eqv, PyData.eqvAll, h0.eq, h1.eq, T2.mk.injEq, Bool.and_true, Bool.decide_and]⟩
instance {α β γ : Type} [Enc α] [DecidableEq α] [h0 : EqE α] [Enc β] [DecidableEq β] [h1 : EqE β] [Enc γ] [DecidableEq γ] [h2 : EqE γ] : EqE (T3 α β γ) := ⟨fun x y => by cases x; cases y; show PyData.eqv (.tuple _) (.tuple _) = _; simp only [PyData.eqv, PyData.eqvAll, h0.eq, h1.eq, h2.eq, T3.mk.injEq, Bool.and_true, Bool.decide_and]⟩
instance {α β γ δ : Type} [Enc α] [DecidableEq α] [h0 : EqE α] [Enc β] [DecidableEq β] [h1 : EqE β] [Enc γ] [DecidableEq γ] [h2 : EqE γ] [Enc δ] [DecidableEq δ] [h3 : EqE δ] : EqE (T4 α β γ δ) := ⟨fun x y => by cases x; cases y; show PyData.eqv (.tuple _) (.tuple _) = _; simp only [PyData.eqv, PyData.eqvAll, h0.eq, h1.eq, h2.eq, h3.eq, T4.mk.injEq, Bool.and_true, Bool.decide_and]⟩
instance {α β γ δ ε : Type} [Enc α] [DecidableEq α] [h0 : EqE α] [Enc β] [DecidableEq β] [h1 : EqE β] [Enc γ] [DecidableEq γ] [h2 : EqE γ] [Enc δ] [DecidableEq δ] [h3 : EqE δ] [Enc ε] [DecidableEq ε] [h4 : EqE ε] : EqE (T5 α β γ δ ε) := ⟨fun x y => by cases x; cases y; show PyData.eqv (.tuple _) (.tuple _) = _; simp only [PyData.eqv, PyData.eqvAll, h0.eq, h1.eq, h2.eq, h3.eq, h4.eq, T5.mk.injEq, Bool.and_true, Bool.decide_and]⟩
instance {α β γ δ ε ζ : Type} [Enc α] [DecidableEq α] [h0 : EqE α] [Enc β] [DecidableEq β] [h1 : EqE β] [Enc γ] [DecidableEq γ] [h2 : EqE γ] [Enc δ] [DecidableEq δ] [h3 : EqE δ] [Enc ε] [DecidableEq ε] [h4 : EqE ε] [Enc ζ] [DecidableEq ζ] [h5 : EqE ζ] : EqE (T6 α β γ δ ε ζ) := ⟨fun x y => by cases x; cases y; show PyData.eqv (.tuple _) (.tuple _) = _; simp only [PyData.eqv, PyData.eqvAll, h0.eq, h1.eq, h2.eq, h3.eq, h4.eq, h5.eq, T6.mk.injEq, Bool.and_true, Bool.decide_and]⟩
end E
/-! X2: rules of tests, displays, slices, methods, operations. -/
namespace E
open PySem PySem.Spec PyProof.Rows L2
section
variable {s s' s₂ : S} {a a' a1 a2 a3 : AE} {r : R} {v v1 v2 v3 : RV} {f g f1 f2 f3 : ES} {t : AS} {vs : List RV} {d d1 d2 d3 : D} {u u1 u2 : TS'} {b b1 b2 : Bool}
theorem jt_bool (h : J f a (.da (.bool b)) a1) : JT (boolT f) a b a1 := fun s hs => by
  obtain ⟨r, s1, e1, p1, _, q1, k1⟩ := h s hs
  cases (show r = .sh (.bool b) from p1)
  exact ⟨s1, by unfold boolT; rw [e1, Res.bind_ok], q1, k1⟩
theorem jt_tru (h : J f a v a1) (q : a1.val v = some d) (ho : truOk d = true) : JT (truS f) a (truD d) a1 := fun s hs => by
  obtain ⟨r, s1, e1, p1, _, q1, k1⟩ := h s hs
  exact ⟨s1, by unfold truS; rw [e1, Res.bind_ok, look_of q1 p1 q]; exact if_pos ho, q1, k1⟩
theorem jt_not (h : JT u a b a1) : JT (notT u) a (!b) a1 := fun s hs => by
  obtain ⟨s1, e1, q1, k1⟩ := h s hs
  exact ⟨s1, by unfold notT; rw [e1, Res.bind_ok], q1, k1⟩
theorem jt_and (h1 : JT u1 a b1 a1) (h2 : b1 = true → JT u2 a1 b a2) (h3 : b1 = false → b = false ∧ a2 = a1) : JT (andT u1 u2) a b a2 := fun s hs => by
  obtain ⟨s1, e1, q1, k1⟩ := h1 s hs
  cases b1 with
  | true =>
    obtain ⟨s2, e2, q2, k2⟩ := h2 rfl s1 q1
    exact ⟨s2, by unfold andT; rw [e1, Res.bind_ok, if_pos rfl, e2], q2, k1.trans k2⟩
  | false =>
    obtain ⟨rfl, rfl⟩ := h3 rfl
    exact ⟨s1, by unfold andT; rw [e1, Res.bind_ok, if_neg Bool.false_ne_true], q1, k1⟩
theorem jt_or (h1 : JT u1 a b1 a1) (h2 : b1 = false → JT u2 a1 b a2) (h3 : b1 = true → b = true ∧ a2 = a1) : JT (orT u1 u2) a b a2 := fun s hs => by
  obtain ⟨s1, e1, q1, k1⟩ := h1 s hs
  cases b1 with
  | false =>
    obtain ⟨s2, e2, q2, k2⟩ := h2 rfl s1 q1
    exact ⟨s2, by unfold orT; rw [e1, Res.bind_ok, if_neg Bool.false_ne_true, e2], q2, k1.trans k2⟩
  | true =>
    obtain ⟨rfl, rfl⟩ := h3 rfl
    exact ⟨s1, by unfold orT; rw [e1, Res.bind_ok, if_pos rfl], q1, k1⟩
theorem jt_and' (h1 : JT u1 a b1 a1) (h2 : b1 = true → JT u2 a1 b2 a1) : JT (andT u1 u2) a (b1 && b2) a1 :=
  jt_and h1 (fun e => by rw [e, Bool.true_and]; exact h2 e) fun e => ⟨by rw [e]; rfl, rfl⟩
theorem jt_or' (h1 : JT u1 a b1 a1) (h2 : b1 = false → JT u2 a1 b2 a1) : JT (orT u1 u2) a (b1 || b2) a1 :=
  jt_or h1 (fun e => by rw [e, Bool.false_or]; exact h2 e) fun e => ⟨by rw [e]; rfl, rfl⟩
theorem jt_eq (h : JT u a b a1) (e : b = b1) : JT u a b1 a1 := e ▸ h
theorem j_and (h1 : J f a (.da (.bool b1)) a1) (h2 : b1 = true → J g a1 (.da (.bool b)) a2) (h3 : b1 = false → b = false ∧ a2 = a1) : J (andV f g) a (.da (.bool b)) a2 := fun s hs => by
  obtain ⟨r, s1, e1, p1, _, q1, k1⟩ := h1 s hs
  cases (show r = .sh (.bool b1) from p1)
  cases b1 with
  | true =>
    obtain ⟨r2, s2, e2, p2, n2, q2, k2⟩ := h2 rfl s1 q1
    cases (show r2 = .sh (.bool b) from p2)
    exact ⟨_, s2, by unfold andV; rw [e1, Res.bind_ok]; exact e2, rfl, fun _ e => (by cases e), q2, k1.trans k2⟩
  | false =>
    obtain ⟨rfl, rfl⟩ := h3 rfl
    exact ⟨_, s1, by unfold andV; rw [e1, Res.bind_ok], rfl, fun _ e => (by cases e), q1, k1⟩
theorem j_and' (h1 : J f a (.da (.bool b1)) a1) (h2 : b1 = true → J g a1 (.da (.bool b2)) a1) : J (andV f g) a (.da (.bool (b1 && b2))) a1 :=
  j_and h1 (fun e => by rw [e, Bool.true_and]; exact h2 e) fun e => ⟨by rw [e]; rfl, rfl⟩
theorem j_ite (h : JT u a b a1) (h1 : b = true → J f a1 v a2) (h2 : b = false → J g a1 v a2) : J (iteS u f g) a v a2 := fun s hs => by
  obtain ⟨s1, e1, q1, k1⟩ := h s hs
  cases b with
  | true =>
    obtain ⟨r2, s2, e2, p2, n2, q2, k2⟩ := h1 rfl s1 q1
    exact ⟨r2, s2, by unfold iteS; rw [e1, Res.bind_ok, if_pos rfl, e2], p2, fun c e => (n2 c e).imp (fun z => by rw [← k1.base]; exact z) (Nat.le_trans k1.le), q2, k1.trans k2⟩
  | false =>
    obtain ⟨r2, s2, e2, p2, n2, q2, k2⟩ := h2 rfl s1 q1
    exact ⟨r2, s2, by unfold iteS; rw [e1, Res.bind_ok, if_neg Bool.false_ne_true, e2], p2, fun c e => (n2 c e).imp (fun z => by rw [← k1.base]; exact z) (Nat.le_trans k1.le), q2, k1.trans k2⟩
theorem j_eq (h : J f a v a1) (e : v = v1) : J f a v1 a1 := e ▸ h
theorem j_iteD {τ : Type} {e : τ → D} {x y : τ} (h : JT u a b a1) (h1 : b = true → J f a1 (.da (e x)) a2) (h2 : b = false → J g a1 (.da (e y)) a2) : J (iteS u f g) a (.da (e (if b = true then x else y))) a2 :=
  j_ite h (fun q => by rw [if_pos q]; exact h1 q) fun q => by rw [if_neg (by rw [q]; exact Bool.false_ne_true)]; exact h2 q
theorem j_chain {g1 g2 : R → R → S → Res R} (h1 : J f1 a v1 a1) (h2 : J f2 a1 v2 a2) (q1 : a2.val v1 = some d1) (q2 : a2.val v2 = some d2) (hg : Rd2 g1 d1 d2 (.bool b1)) (h3 : b1 = true → J f3 a2 v3 a2) (q3 : a2.val v3 = some d3) (hg2 : Rd2 g2 d2 d3 (.bool b2)) :
    J (chainS g1 g2 f1 f2 f3) a (.da (.bool (b1 && b2))) a2 := fun s h => by
  obtain ⟨r1, s1, e1, p1, n1, z1, k1⟩ := h1 s h
  obtain ⟨r2, s2, e2, p2, n2, z2, k2⟩ := h2 s1 z1
  have g1' := hg _ _ _ (look_of z2 (p1.fr k2) q1) (look_of z2 p2 q2)
  cases b1 with
  | true =>
    obtain ⟨r3, s3, e3, p3, n3, z3, k3⟩ := h3 rfl s2 z2
    refine ⟨.sh (.bool (true && b2)), s3, ?_, rfl, fun _ e => (by cases e), z3, (k1.trans k2).trans k3⟩
    unfold chainS
    rw [e1, Res.bind_ok, e2, Res.bind_ok, g1', Res.bind_ok]
    show (f3 s2).bind _ = _
    rw [e3, Res.bind_ok]
    exact hg2 _ _ _ (look_of z3 (p2.fr k3) q2) (look_of z3 p3 q3)
  | false =>
    refine ⟨.sh (.bool (false && b2)), s2, ?_, rfl, fun _ e => (by cases e), z2, k1.trans k2⟩
    unfold chainS
    rw [e1, Res.bind_ok, e2, Res.bind_ok, g1', Res.bind_ok]
    rfl
/-! ### what a display fixes -/
def AE.frz (a : AE) : RV → Option (D × AE)
  | .da d => some (d, a)
  | .te ds => some (.list ds, a)
  | .va i => match a.sl[i]? with
    | some (.da d) => some (d, a)
    | _ => match a.cell i with
      | some (.lv ds) => some (.list ds, a.setC i (.fz ds))
      | some (.fz ds) => some (.list ds, a)
      | some (.dv ds) => some (.dict (ds.map fun p => (keyD p.1, p.2)), a.setC i .dead)
      | some (.tr d) => if d.hasDict = false then some (d, a.setC i .dead) else none
      | _ => none
  | .xc _ => none
  | .td ds => some (.dict (ds.map fun p => (keyD p.1, p.2)), a)
  | .tz d => if d.hasDict = false then some (d, a) else none
def AE.frzs (a : AE) : List RV → Option (List D × AE)
  | [] => some ([], a)
  | v :: vs => match a.frz v with
    | none => none
    | some (d, a1) => match a1.frzs vs with
      | none => none
      | some (ds, a2) => some (d :: ds, a2)
theorem frz_abs (h : Abs s a) (hr : RRep s r v) (hf : a.frz v = some (d, a')) : ∃ s', s.frz r = some (d, s') ∧ Abs s' a' ∧ s'.np = s.np ∧ s'.sl = s.sl ∧ s'.ce.length = s.ce.length ∧ ∀ c, s.base ≤ c → r ≠ .own c → s'.cellAt c = s.cellAt c := by
  cases v with
  | xc x => cases hf
  | da e =>
    cases (show r = .sh e from hr)
    cases hf
    exact ⟨s, rfl, h, rfl, rfl, rfl, fun _ _ _ => rfl⟩
  | te ds =>
    obtain ⟨c, rfl, h2, h3, h4⟩ := hr
    cases hf
    refine ⟨s.put c (.fz ds), by unfold S.frz; simp only [h4], h.put_te h2, rfl, rfl, put_len, fun c' _ hn => ?_⟩
    rw [cellAt_put, if_neg (by rintro ⟨z, _⟩; exact hn (by rw [z]))]
  | td ds =>
    obtain ⟨c, rfl, h2, h3, h4⟩ := hr
    cases hf
    refine ⟨s.put c .dead, by unfold S.frz; simp only [h4], h.put_te h2, rfl, rfl, put_len, fun c' _ hn => ?_⟩
    rw [cellAt_put, if_neg (by rintro ⟨z, _⟩; exact hn (by rw [z]))]
  | tz ds =>
    obtain ⟨c, rfl, h2, h3, h4⟩ := hr
    replace hf : (if ds.hasDict = false then some (ds, a) else none) = some (d, a') := hf
    split at hf
    rotate_left
    · cases hf
    rename_i hn0
    cases hf
    refine ⟨s.put c .dead, by unfold S.frz; simp only [h4]; rw [if_pos hn0], h.put_te h2, rfl, rfl, put_len, fun c' _ hn => ?_⟩
    rw [cellAt_put, if_neg (by rintro ⟨z, _⟩; exact hn (by rw [z]))]
  | va i =>
    have hr : s.sl[i]? = some (some r) := hr
    unfold AE.frz at hf
    simp only at hf
    split at hf
    · rename_i e he
      cases hf
      rw [h.da i _ he] at hr
      cases hr
      exact ⟨s, rfl, h, rfl, rfl, rfl, fun _ _ _ => rfl⟩
    · split at hf
      · rename_i ds hc
        cases hf
        obtain ⟨m, e1, e2, e3, _⟩ := h.home hc
        rw [e1] at hr
        cases hr
        refine ⟨s.put m (.fz ds), by unfold S.frz; simp only [e3], h.put hc e1 (fun _ _ => trivial), rfl, rfl, put_len, fun c' hb hn => ?_⟩
        rw [cellAt_put, if_neg (by rintro ⟨z, _⟩; omega)]
      · rename_i ds hc
        cases hf
        obtain ⟨m, e1, e2, e3, _⟩ := h.home hc
        rw [e1] at hr
        cases hr
        exact ⟨s, by unfold S.frz; simp only [e3], h, rfl, rfl, rfl, fun _ _ _ => rfl⟩
      · rename_i ds hc
        cases hf
        obtain ⟨m, e1, e2, e3, _⟩ := h.home hc
        rw [e1] at hr
        cases hr
        refine ⟨s.put m .dead, by unfold S.frz; simp only [e3], h.put hc e1 (fun _ _ => trivial), rfl, rfl, put_len, fun c' hb hn => ?_⟩
        rw [cellAt_put, if_neg (by rintro ⟨z, _⟩; omega)]
      · rename_i ds hc
        split at hf
        · rename_i hn0
          cases hf
          obtain ⟨m, e1, e2, e3, _⟩ := h.home hc
          rw [e1] at hr
          cases hr
          refine ⟨s.put m .dead, by unfold S.frz; simp only [e3]; rw [if_pos hn0], h.put hc e1 (fun _ _ => trivial), rfl, rfl, put_len, fun c' hb hn => ?_⟩
          rw [cellAt_put, if_neg (by rintro ⟨z, _⟩; omega)]
        · cases hf
      · cases hf
theorem frzs_abs : ∀ {rs : List R} {vs : List RV} {ds : List D} {s : S} {a a' : AE}, Abs s a → RReps s rs vs → a.frzs vs = some (ds, a') → ∃ s', s.frzs rs = some (ds, s') ∧ Abs s' a' ∧ s'.np = s.np ∧ s'.sl = s.sl ∧ s'.ce.length = s.ce.length ∧ ∀ c, s.base ≤ c → R.own c ∉ rs → s'.cellAt c = s.cellAt c
  | _, _, _, s, a, _, h, .nil, hf => by cases hf; exact ⟨s, rfl, h, rfl, rfl, rfl, fun _ _ _ => rfl⟩
  | _, _, _, s, a, a', h, .cons (r := r) (v := v) (rs := rs) (vs := vs) h1 h2 h3, hf => by
    unfold AE.frzs at hf
    split at hf
    · cases hf
    · rename_i d a1 e1
      split at hf
      · cases hf
      · rename_i ds a2 e2
        cases hf
        obtain ⟨s1, q1, q2, q3, q4, q5, q6⟩ := frz_abs h h1 e1
        have hb : s1.base = s.base := by unfold S.base; rw [q3, q4]
        have keep : ∀ {rs' : List R} {vs' : List RV}, RReps s rs' vs' → (∀ c, r = .own c → s.base ≤ c → R.own c ∉ rs') → RReps s1 rs' vs' := by
          intro rs' vs' hh
          induction hh with
          | nil => intro _; exact .nil
          | cons g1 g2 g3 ih =>
            rename_i r0 v0 rs0 vs0
            intro hne
            refine .cons ?_ (ih fun c e hb2 hm => hne c e hb2 (List.mem_cons_of_mem _ hm)) fun c e hb2 => g3 c e (by rw [← hb]; exact hb2)
            cases v0 with
            | da d0 => exact g1
            | xc d0 => exact g1
            | te ds0 =>
              obtain ⟨c, y1, y2, y3, y4⟩ := g1
              refine ⟨c, y1, by rw [hb]; exact y2, by rw [q5]; exact y3, ?_⟩
              rw [q6 c y2 (fun z => hne c z y2 (by rw [y1]; exact List.mem_cons_self))]
              exact y4
            | td ds0 =>
              obtain ⟨c, y1, y2, y3, y4⟩ := g1
              refine ⟨c, y1, by rw [hb]; exact y2, by rw [q5]; exact y3, ?_⟩
              rw [q6 c y2 (fun z => hne c z y2 (by rw [y1]; exact List.mem_cons_self))]
              exact y4
            | tz ds0 =>
              obtain ⟨c, y1, y2, y3, y4⟩ := g1
              refine ⟨c, y1, by rw [hb]; exact y2, by rw [q5]; exact y3, ?_⟩
              rw [q6 c y2 (fun z => hne c z y2 (by rw [y1]; exact List.mem_cons_self))]
              exact y4
            | va i => show s1.sl[i]? = _; rw [q4]; exact g1
        obtain ⟨s2, y1, y2, y3, y4, y5, y6⟩ := frzs_abs q2 (keep h2 h3) e2
        refine ⟨s2, ?_, y2, y3.trans q3, y4.trans q4, y5.trans q5, fun c hc hm => ?_⟩
        · unfold S.frzs; rw [q1]; dsimp only; rw [y1]
        · rw [y6 c (by rw [hb]; exact hc) (fun z => hm (List.mem_cons_of_mem _ z))]
          exact q6 c hc fun z => hm (by rw [z]; exact List.mem_cons_self)
theorem frz_fr {rs : List R} (k1 : Fr s s') (hn : ∀ r ∈ rs, Nw s r) {s2 : S} (y3 : s2.np = s'.np) (y4 : s2.sl = s'.sl) (y5 : s2.ce.length = s'.ce.length) (y6 : ∀ c, s'.base ≤ c → R.own c ∉ rs → s2.cellAt c = s'.cellAt c) : Fr s s2 :=
  ⟨y3.trans k1.np, y4.trans k1.sl, by rw [y5]; exact k1.le, fun c h1 h2 => (y6 c (by rw [k1.base]; exact h1) fun hm => by
    rcases hn _ hm c rfl with q | q <;> omega).trans (k1.tp c h1 h2)⟩
theorem small_len {n : Nat} (h : Nat.ble n 1000 = true) : n ≤ sizeLine := Nat.le_trans (Nat.le_of_ble_eq_true h) (by decide)
theorem j_tup {ds : List D} (h : JA t a vs a1) (hf : a1.frzs vs = some (ds, a2)) (hz' : Nat.ble ds.length 1000 = true := by rfl) : J (tupS t) a (.da (.tuple ds)) a2 := fun s hs => by
  obtain ⟨rs, s1, e1, p1, n1, q1, k1⟩ := h s hs
  obtain ⟨s2, y1, y2, y3, y4, y5, y6⟩ := frzs_abs q1 p1 hf
  refine ⟨_, s2, by unfold tupS; rw [e1, Res.bind_ok, y1]; exact if_pos (small_len hz'), rfl, fun _ e => (by cases e), y2, frz_fr k1 n1 y3 y4 y5 y6⟩
theorem j_lst {ds : List D} (h : JA t a vs a1) (hf : a1.frzs vs = some (ds, a2)) (hz' : Nat.ble ds.length 1000 = true := by rfl) : J (lstS t) a (.te ds) a2 := fun s hs => by
  obtain ⟨rs, s1, e1, p1, n1, q1, k1⟩ := h s hs
  obtain ⟨s2, y1, y2, y3, y4, y5, y6⟩ := frzs_abs q1 p1 hf
  have k2 := frz_fr k1 n1 y3 y4 y5 y6
  obtain ⟨z1, z2, z3⟩ := new_ok y2 ds
  refine ⟨_, _, by unfold lstS; rw [e1, Res.bind_ok, y1]; exact if_pos (small_len hz'), z1, fun c e => (by cases e; exact .inr k2.le), z2, k2.trans z3⟩
theorem da_eq (h : J f a (.da d) a1) (e : d = d1) : J f a (.da d1) a1 := e ▸ h
/-! ### slices -/
def JO (o : OS) (a : AE) (k : Option Int) (a' : AE) : Prop := ∀ s, Abs s a → ∃ s', o s = .ok k s' ∧ Abs s' a' ∧ Fr s s'
theorem jo_no : JO noO a none a := fun s h => ⟨s, rfl, h, .refl⟩
theorem jo_some {i : Int} (h : J f a (.da (.int i)) a1) : JO (someO f) a (some i) a1 := fun s hs => by
  obtain ⟨r, s1, e1, p1, _, q1, k1⟩ := h s hs
  cases (show r = .sh (.int i) from p1)
  exact ⟨s1, by unfold someO; rw [e1, Res.bind_ok]; rfl, q1, k1⟩
def cutL {τ : Type} (xs : List τ) (lo hi : Option Int) : List τ := (xs.drop (HT.sIx xs.length 0 lo)).take (HT.sIx xs.length xs.length hi - HT.sIx xs.length 0 lo)
/-! ### methods -/
theorem isL_of (h : Abs s a) {i : Nat} {ds : List D} {m : Nat} (hm : s.sl[i]? = some (some (.own m))) (hc : a.cell i = some (.lv ds)) : s.isL (.own m) = true := by
  obtain ⟨m', e1, _, e3, _⟩ := h.home hc
  rw [hm] at e1
  cases e1
  unfold S.isL
  rw [look_cell, e3]
  rfl
theorem j_app {i : Nat} {ds es : List D} (h0 : a.cell i = some (.lv es)) (h : J f a v a1) (hf : a1.frz v = some (d, a2)) (hc : a2.cell i = some (.lv ds)) (hz : ds.length < sizeLine) :
    J (methS appR (varS i) (consA f nilA)) a (.da .none) (a2.setC i (.lv (ds ++ [d]))) := fun s hs => by
  obtain ⟨m, w1, w2, w3, _⟩ := hs.home h0
  obtain ⟨r, s1, e1, p1, n1, q1, k1⟩ := h s hs
  obtain ⟨s2, y1, y2, y3, y4, y5, y6⟩ := frz_abs q1 p1 hf
  have k2 : Fr s s2 := frz_fr (rs := [r]) k1 (fun q hq => by rw [List.mem_singleton.mp hq]; exact n1) y3 y4 y5 fun c h1 h2 => y6 c h1 fun z => h2 (by rw [z]; exact List.mem_cons_self)
  have hm : s2.sl[i]? = some (some (.own m)) := by rw [k2.sl]; exact w1
  obtain ⟨m', x1, x2, x3, _⟩ := y2.home hc
  rw [hm] at x1
  cases x1
  refine ⟨_, _, ?_, rfl, fun _ e => (by cases e), y2.put hc hm (fun _ _ => trivial), k2.trans (.put (by rw [k2.base]; exact w2))⟩
  unfold methS varS consA nilA
  rw [w1]
  show (if s.isL (.own m) = true then _ else _) = _
  rw [if_pos (isL_of hs w1 h0), e1, Res.bind_ok, Res.bind_ok, Res.bind_ok]
  unfold appR
  simp only [y1, x3]
  exact if_pos hz
/-! ### operations -/
theorem rd_int {c : Int → Int → Prop} [∀ i j, Decidable (c i j)] {o : Int → Int → D} {i j : Int} (hc : c i j) : Rd2 (intR c o) (.int i) (.int j) (o i j) := fun r1 r2 s h1 h2 => by
  unfold intR
  rw [h1, h2]
  exact if_pos hc
theorem rd_addI {i j : Int} : Rd2 addR (.int i) (.int j) (.int (i + j)) := fun r1 r2 s h1 h2 => by unfold addR; rw [h1, h2]
theorem rd_addS {i j : Str} (hz : i.length + j.length ≤ sizeLine) : Rd2 addR (.str i) (.str j) (.str (i ++ j)) := fun r1 r2 s h1 h2 => by unfold addR; rw [h1, h2]; exact if_pos hz
theorem rd_mulI {i j : Int} (hc : cMul i j) : Rd2 mulR (.int i) (.int j) (.int (i * j)) := fun r1 r2 s h1 h2 => by unfold mulR; rw [h1, h2]; exact if_pos hc
def repL {τ : Type} (k : Int) (xs : List τ) : List τ := (List.replicate k.toNat xs).flatten
theorem rd_eq {b : Bool} {x y : D} {q : Bool} (ho : eqOk x y = true) (hq : PyData.eqv x y = q) : Rd2 (eqR b) x y (.bool (if b then !q else q)) := fun r1 r2 s h1 h2 => by unfold eqR; rw [h1, h2, ← hq]; exact if_pos ho
theorem rd_eqT {τ : Type} [Enc τ] [DecidableEq τ] [h : EqE τ] {x y : τ} (ho : eqOk (enc x) (enc y) = true) : Rd2 (eqR false) (enc x) (enc y) (.bool (decide (x = y))) := rd_eq ho (h.eq x y)
theorem rd_neT {τ : Type} [Enc τ] [DecidableEq τ] [h : EqE τ] {x y : τ} (ho : eqOk (enc x) (enc y) = true) : Rd2 (eqR true) (enc x) (enc y) (.bool (!decide (x = y))) := rd_eq ho (h.eq x y)
theorem eq_okS (x y : Str) : eqOk (.str x) (.str y) = true := rfl
theorem eq_okI (x y : Int) : eqOk (.int x) (.int y) = true := rfl
/-- xs[i] as Python has it -/
def ixP {τ : Type} (xs : List τ) (i : Int) : Option τ := if 0 ≤ i then xs[i.toNat]? else if 0 ≤ (xs.length : Int) + i then xs[((xs.length : Int) + i).toNat]? else none
theorem rd_ix {ds : List D} {i : Int} (h : atD ds i = some d) : Rd2 idxR (.list ds) (.int i) d := fun r1 r2 s h1 h2 => by unfold idxR; rw [h1, h2]; simp only [h]
theorem rd_ixT {ds : List D} {i : Int} (h : atD ds i = some d) : Rd2 idxR (.tuple ds) (.int i) d := fun r1 r2 s h1 h2 => by unfold idxR; rw [h1, h2]; simp only [h]
theorem rd1_isN {neg : Bool} : Rd1 (isNR neg) d (.bool (if neg then !isNone d else isNone d)) := fun r s h => by unfold isNR; rw [h]
theorem rd1_neg {i : Int} : Rd1 negR (.int i) (.int (-i)) := fun r s h => by unfold negR; rw [h]
theorem rd1_not (h : truOk d = true) : Rd1 notR d (.bool (!truD d)) := fun r s q => by unfold notR; rw [q]; exact if_pos h
theorem rd1_isi {T : Ty'} : Rd1 (isiR T) d (.bool (isD T d)) := fun r s h => by unfold isiR; rw [h]
/-! ### builtins -/
theorem o_lenL {ds : List D} : ∀ s, lenD (.list ds) s = .ok (.sh (.int ds.length)) s := fun _ => rfl
theorem o_lenM {τ : Type} {e : τ → D} {xs : List τ} : ∀ s, lenD (.list (xs.map e)) s = .ok (.sh (.int (xs.length : Int))) s := fun s => by rw [o_lenL, List.length_map]
theorem o_lenT {ds : List D} : ∀ s, lenD (.tuple ds) s = .ok (.sh (.int ds.length)) s := fun _ => rfl
theorem o_lenS {x : Str} (h : x.length ≤ sizeLine) : ∀ s, lenD (.str x) s = .ok (.sh (.int x.length)) s := fun s => if_pos h
theorem o_intI {i : Int} : ∀ s, intD (.int i) s = .ok (.sh (.int i)) s := fun _ => rfl
theorem o_intB {b : Bool} : ∀ s, intD (.bool b) s = .ok (.sh (.int (if b = true then 1 else 0))) s := fun _ => rfl
theorem o_abs {i : Int} : ∀ s, absD (.int i) s = .ok (.sh (.int (i.natAbs : Int))) s := fun s => by
  show Res.ok (R.sh (.int (if i < 0 then -i else i))) s = _
  congr 3
  split <;> omega
theorem o_max2 {i j : Int} : ∀ s, max2D (.int i) (.int j) s = .ok (.sh (.int (max i j))) s := fun s => by
  show Res.ok (R.sh (.int (if j > i then j else i))) s = _
  congr 3
  split <;> omega
theorem o_min2 {i j : Int} : ∀ s, min2D (.int i) (.int j) s = .ok (.sh (.int (min i j))) s := fun s => by
  show Res.ok (R.sh (.int (if j < i then j else i))) s = _
  congr 3
  split <;> omega
theorem bools_map : ∀ xs : List Bool, boolsOf (xs.map PyData.bool) = some xs
  | [] => rfl
  | x :: xs => by rw [List.map_cons, boolsOf, bools_map xs]; rfl
theorem o_all {xs : List Bool} : ∀ s, allD (.list (xs.map PyData.bool)) s = .ok (.sh (.bool (xs.all id))) s := fun s => by unfold allD; simp only [bools_map]
theorem o_list {ds : List D} : ∀ s, listD (.list ds) s = .ok (.own s.ce.length) (s.push (.lv ds)) := fun _ => rfl
/-- may be shown -/
def shwOk (d : D) : Prop := d.showable = true ∧ d.depth ≤ 50 ∧ d.shown.length ≤ sizeLine
instance (d : D) : Decidable (shwOk d) := by unfold shwOk; exact inferInstance
theorem o_repr (h : shwOk d) : ∀ s, reprD d s = .ok (.sh (.str d.shown)) s := fun s => if_pos h
end
end E
/-! X3: statements. -/
namespace E
open PySem PySem.Spec PyProof.Rows L2
inductive Out where
  | nx (a : AE)
  | bk (a : AE)
  | go (a : AE)
  | rt (v : Rv) (io : List Cell)
/-- what is handed back -/
def RvRep (s : S) (r : R) : Rv → Prop
  | .sh d => r = .sh d ∨ ∃ c ds, r = .own c ∧ s.np ≤ c ∧ s.cellAt c = .fz ds ∧ d = .list ds
  | .new ds => ∃ c, r = .own c ∧ s.np ≤ c ∧ s.cellAt c = .lv ds
  | .nwd ds => ∃ c, r = .own c ∧ s.np ≤ c ∧ s.cellAt c = .dv ds
  | .nwt d => ∃ c, r = .own c ∧ s.np ≤ c ∧ s.cellAt c = .tr d
  | .arg i => r = .own i ∧ i < s.np
  | .exn _ => False
structure IoIs (s : S) (io : List Cell) : Prop where
  np : s.np = io.length
  at_ : ∀ (i : Nat) (c : Cell), io[i]? = some c → s.cellAt i = c
def rvO (a : AE) : RV → Option Rv
  | .da d => some (.sh d)
  | .te ds => some (.new ds)
  | .td ds => some (.nwd ds)
  | .tz d => some (.nwt d)
  | .va i => match a.sl[i]? with
    | some (.da d) => some (.sh d)
    | some (.ow (.lv ds)) => some (.new ds)
    | some (.ow (.fz ds)) => some (.sh (.list ds))
    | some (.ow (.dv ds)) => some (.nwd ds)
    | some (.ow (.tr d)) => some (.nwt d)
    | some .ar => some (.arg i)
    | _ => none
  | .xc _ => none
/-- a block that is left: with a value, or by an exception -/
def RtRep (q : Res Fl) (s : S) : Rv → Prop
  | .exn x => q = .exc x s
  | .sh d => ∃ r, q = .ok (.rt r) s ∧ RvRep s r (.sh d)
  | .new ds => ∃ r, q = .ok (.rt r) s ∧ RvRep s r (.new ds)
  | .nwd ds => ∃ r, q = .ok (.rt r) s ∧ RvRep s r (.nwd ds)
  | .nwt d => ∃ r, q = .ok (.rt r) s ∧ RvRep s r (.nwt d)
  | .arg i => ∃ r, q = .ok (.rt r) s ∧ RvRep s r (.arg i)
def Ends (q : Res Fl) (s : S) : Out → Prop
  | .nx a => q = .ok .nx s ∧ Abs s a
  | .bk a => q = .ok .bk s ∧ Abs s a
  | .go a => (q = .ok .nx s ∨ q = .ok .ct s) ∧ Abs s a
  | .rt v io => RtRep q s v ∧ IoIs s io
theorem RtRep.of {s : S} {r : R} {v : Rv} (h : RvRep s r v) : RtRep (.ok (.rt r) s) s v := by
  cases v with
  | exn x => exact h.elim
  | sh d => exact ⟨r, rfl, h⟩
  | new ds => exact ⟨r, rfl, h⟩
  | nwd ds => exact ⟨r, rfl, h⟩
  | nwt ds => exact ⟨r, rfl, h⟩
  | arg i => exact ⟨r, rfl, h⟩
theorem RtRep.cases {q : Res Fl} {s : S} {v : Rv} (h : RtRep q s v) : (∃ x, v = .exn x ∧ q = .exc x s) ∨ ∃ r, q = .ok (.rt r) s ∧ RvRep s r v := by
  cases v with
  | exn x => exact .inl ⟨x, rfl, h⟩
  | sh d => exact .inr h
  | new ds => exact .inr h
  | nwd ds => exact .inr h
  | nwt ds => exact .inr h
  | arg i => exact .inr h
def BJ {β : Type} (st : SS) (a : AE) (m : Option β) (o : β → Out) : Prop := ∀ b, m = some b → ∀ s, Abs s a → ∃ s', Ends (st s) s' (o b)
def DJ (st : SS) (a a1 : AE) : Prop := ∀ s, Abs s a → ∃ s', st s = .ok .nx s' ∧ Abs s' a1
section
variable {s s' s₂ : S} {a a' a1 a2 a3 : AE} {r : R} {v v1 v2 v3 : RV} {f g f1 f2 f3 : ES} {t : AS} {vs : List RV} {d d1 d2 d3 : D} {u u1 u2 : TS'} {b b1 b2 : Bool} {st S1 S2 S3 : SS} {β γ : Type} {m m1 m2 : Option β} {o o1 : β → Out}
theorem tr_cell {c : Nat} (hc : c < s.base) : s.tr.cellAt c = s.cellAt c := by
  unfold S.cellAt S.tr
  rw [List.getElem?_take, if_pos (show c < s.np + s.sl.length from hc)]
theorem Abs.tr (h : Abs s a) : Abs s.tr a where
  np := h.np
  ln := h.ln
  ge := by
    show s.base ≤ (s.ce.take s.base).length
    rw [List.length_take]
    exact Nat.le_min.mpr ⟨Nat.le_refl _, h.ge⟩
  da := h.da
  ow := fun i c e => by
    obtain ⟨e1, e2⟩ := h.ow i c e
    have hi : i < s.sl.length := (List.getElem?_eq_some_iff.mp e1).1
    exact ⟨e1, by rw [← e2]; exact tr_cell (show s.np + i < s.np + s.sl.length by omega)⟩
  ar := h.ar
  io := fun i c e => by
    have hi : i < a.io.length := (List.getElem?_eq_some_iff.mp e).1
    rw [← h.io i c e]
    exact tr_cell (by unfold S.base; have := h.np; omega)
  hm := h.hm
  lk := fun i ds hi e => h.lk i ds hi (by rw [← e]; exact (tr_cell (by have hi : i < s.sl.length := hi; unfold S.base; show s.np + i < _; omega)).symm)
  lo := fun i ds e => by
    have hi : i < a.sl.length := (List.getElem?_eq_some_iff.mp e).1
    rw [← h.lo i ds e]
    exact tr_cell (by have := h.ln; unfold S.base; show s.np + i < _; omega)
  ex := h.ex
/-! ### assignment -/
def AE.locked (a : AE) (i : Nat) : Bool := match a.sl[i]? with
  | some (.ow (.lk _)) => true
  | some (.lo _) => true
  | _ => false
def AE.asg (a : AE) (i : Nat) (v : RV) : Option AE := if i < a.sl.length ∧ a.locked i = false then (match v with
  | .da d => some ⟨a.sl.set i (.da d), a.io⟩
  | .te ds => some ⟨a.sl.set i (.ow (.lv ds)), a.io⟩
  | .td ds => some ⟨a.sl.set i (.ow (.dv ds)), a.io⟩
  | .tz d => some ⟨a.sl.set i (.ow (.tr d)), a.io⟩
  | .xc x => some ⟨a.sl.set i (.ex x), a.io⟩
  | .va _ => none) else none
theorem set_get {α : Type} {l : List α} {i j : Nat} {x y : α} (e : (l.set i x)[j]? = some y) : (j = i ∧ y = x) ∨ (j ≠ i ∧ l[j]? = some y) := by
  by_cases hj : i = j
  · subst hj
    by_cases hi : i < l.length
    · rw [List.getElem?_set_self hi] at e
      exact .inl ⟨rfl, (Option.some.inj e).symm⟩
    · rw [List.getElem?_eq_none (by simpa using hi)] at e
      cases e
  · rw [List.getElem?_set_ne hj] at e
    exact .inr ⟨Ne.symm hj, e⟩
theorem not_lk (h : Abs s a) {i : Nat} (hi : i < a.sl.length) (hl : a.locked i = false) {ds : List D} : s.cellAt (s.np + i) ≠ .lk ds := fun e => by
  unfold AE.locked at hl
  rcases h.lk i ds (by rw [h.ln]; exact hi) e with q | q <;> rw [q] at hl <;> cases hl
theorem Abs.set_da (h : Abs s a) {i : Nat} (hi : i < a.sl.length) (hl : a.locked i = false) : Abs { s with sl := s.sl.set i (some (.sh d)) } ⟨a.sl.set i (.da d), a.io⟩ where
  np := h.np
  ln := by show (s.sl.set i _).length = (a.sl.set i _).length; simpa using h.ln
  ge := by show s.np + (s.sl.set i _).length ≤ _; rw [List.length_set]; exact h.ge
  da := fun j e he => by
    rcases set_get he with ⟨rfl, q⟩ | ⟨hj, q⟩
    · cases q; exact List.getElem?_set_self (by rw [h.ln]; exact hi)
    · show (s.sl.set i _)[j]? = _; rw [List.getElem?_set_ne (Ne.symm hj)]; exact h.da j e q
  ow := fun j c he => by
    rcases set_get he with ⟨rfl, q⟩ | ⟨hj, q⟩
    · cases q
    · exact ⟨by show (s.sl.set i _)[j]? = _; rw [List.getElem?_set_ne (Ne.symm hj)]; exact (h.ow j c q).1, (h.ow j c q).2⟩
  ar := fun j he => by
    rcases set_get he with ⟨rfl, q⟩ | ⟨hj, q⟩
    · cases q
    · exact ⟨by show (s.sl.set i _)[j]? = _; rw [List.getElem?_set_ne (Ne.symm hj)]; exact (h.ar j q).1, (h.ar j q).2⟩
  io := h.io
  hm := fun j c he => by
    rcases set_get he with ⟨rfl, q⟩ | ⟨hj, q⟩
    · cases q
    · exact h.hm j c q
  lk := fun j ds hj he => by
    have hj' : j < s.sl.length := by simpa using hj
    by_cases hji : j = i
    · subst hji; exact absurd he (not_lk h hi hl)
    · have := h.lk j ds hj' he
      show (a.sl.set i _)[j]? = _ ∨ (a.sl.set i _)[j]? = _
      rw [List.getElem?_set_ne (Ne.symm hji)]
      exact this
  lo := fun j ds he => by
    rcases set_get he with ⟨rfl, q⟩ | ⟨hj, q⟩
    · cases q
    · exact h.lo j ds q
  ex := fun j x he => by
    rcases set_get he with ⟨_, q⟩ | ⟨hj, q⟩
    · cases q
    · show (s.sl.set i _)[j]? = _; rw [List.getElem?_set_ne (Ne.symm hj)]; exact h.ex j x q
theorem Abs.set_ex {x0 : Ex} (h : Abs s a) {i : Nat} (hi : i < a.sl.length) (hl : a.locked i = false) : Abs { s with sl := s.sl.set i (some (.ex x0)) } ⟨a.sl.set i (.ex x0), a.io⟩ where
  np := h.np
  ln := by show (s.sl.set i _).length = (a.sl.set i _).length; simpa using h.ln
  ge := by show s.np + (s.sl.set i _).length ≤ _; rw [List.length_set]; exact h.ge
  da := fun j e he => by
    rcases set_get he with ⟨rfl, q⟩ | ⟨hj, q⟩
    · cases q
    · show (s.sl.set i _)[j]? = _; rw [List.getElem?_set_ne (Ne.symm hj)]; exact h.da j e q
  ow := fun j c he => by
    rcases set_get he with ⟨rfl, q⟩ | ⟨hj, q⟩
    · cases q
    · exact ⟨by show (s.sl.set i _)[j]? = _; rw [List.getElem?_set_ne (Ne.symm hj)]; exact (h.ow j c q).1, (h.ow j c q).2⟩
  ar := fun j he => by
    rcases set_get he with ⟨rfl, q⟩ | ⟨hj, q⟩
    · cases q
    · exact ⟨by show (s.sl.set i _)[j]? = _; rw [List.getElem?_set_ne (Ne.symm hj)]; exact (h.ar j q).1, (h.ar j q).2⟩
  io := h.io
  hm := fun j c he => by
    rcases set_get he with ⟨rfl, q⟩ | ⟨hj, q⟩
    · cases q
    · exact h.hm j c q
  lk := fun j ds hj he => by
    have hj' : j < s.sl.length := by simpa using hj
    by_cases hji : j = i
    · subst hji; exact absurd he (not_lk h hi hl)
    · have := h.lk j ds hj' he
      show (a.sl.set i _)[j]? = _ ∨ (a.sl.set i _)[j]? = _
      rw [List.getElem?_set_ne (Ne.symm hji)]
      exact this
  lo := fun j ds he => by
    rcases set_get he with ⟨rfl, q⟩ | ⟨hj, q⟩
    · cases q
    · exact h.lo j ds q
  ex := fun j x he => by
    rcases set_get he with ⟨rfl, q⟩ | ⟨hj, q⟩
    · cases q; exact List.getElem?_set_self (by rw [h.ln]; exact hi)
    · show (s.sl.set i _)[j]? = _; rw [List.getElem?_set_ne (Ne.symm hj)]; exact h.ex j x q
theorem lone_ok (h : Abs s a) {i : Nat} : s.loneC i (s.np + i) = true := by
  unfold S.loneC
  rw [List.all_eq_true]
  intro j hj
  have hj' := List.mem_range.mp hj
  by_cases hji : j = i
  · simp [hji]
  · cases e : s.sl[j]? with
    | none => simp
    | some x =>
      cases x with
      | none => simp
      | some r =>
        cases r with
        | sh d => simp
        | ex _ => simp
        | own c =>
          have : c ≠ s.np + i := by
            rcases h.hm j c e with q | ⟨q, q2⟩ <;> omega
          simp [this]
theorem asg_abs (h : Abs s a) (hr : RRep s r v) (ha : a.asg i v = some a') : ∃ s', asg0 i r s = .ok () s' ∧ Abs s' a' ∧ s'.np = s.np ∧ s'.sl.length = s.sl.length ∧ s'.ce.length = s.ce.length ∧ (∀ c, s.base ≤ c → r ≠ .own c → s'.cellAt c = s.cellAt c) := by
  unfold AE.asg at ha
  split at ha
  · rename_i hc
    obtain ⟨hi, hl⟩ := hc
    have hi' : i < s.sl.length := by rw [h.ln]; exact hi
    cases v with
    | da d =>
      cases (show r = .sh d from hr)
      cases ha
      exact ⟨_, by unfold asg0; exact if_pos hi', h.set_da hi hl, rfl, List.length_set .., rfl, fun _ _ _ => rfl⟩
    | xc x =>
      cases (show r = .ex x from hr)
      cases ha
      exact ⟨_, by unfold asg0; exact if_pos hi', h.set_ex hi hl, rfl, List.length_set .., rfl, fun _ _ _ => rfl⟩
    | te ds =>
      obtain ⟨c, rfl, h2, h3, h4⟩ := hr
      cases ha
      have hh : s.np + i < s.base := by unfold S.base; omega
      have hge := h.ge
      have ca : ∀ (c' : Nat) (sl' : List (Option R)), (⟨sl', (s.ce.set (s.np + i) (.lv ds)).set c .dead, s.np⟩ : S).cellAt c' = if c' = c then .dead else if c' = s.np + i then .lv ds else s.cellAt c' := fun c' sl' => by
        unfold S.cellAt
        simp only [List.getElem?_set, List.length_set]
        by_cases q1 : c = c'
        · subst q1; simp [h3]
        · by_cases q2 : s.np + i = c'
          · subst q2; simp [q1, Ne.symm q1, Nat.lt_of_lt_of_le hh hge]
          · simp [q1, q2, Ne.symm q1, Ne.symm q2]
      refine ⟨⟨s.sl.set i (some (.own (s.np + i))), (s.ce.set (s.np + i) (.lv ds)).set c .dead, s.np⟩, ?_, ?_, rfl, List.length_set .., by simp, fun c' hb hn => ?_⟩
      · unfold asg0
        simp only
        rw [if_neg (by omega), h4]
        simp only
        have nk := fun ds' => not_lk h hi hl (ds := ds')
        have lone := lone_ok h (i := i)
        cases q : s.cellAt (s.np + i) with
        | lk ds' => exact absurd q (nk ds')
        | dead => exact if_pos ⟨hi', lone⟩
        | lv ds' => exact if_pos ⟨hi', lone⟩
        | fz ds' => exact if_pos ⟨hi', lone⟩
        | dv ds' => exact if_pos ⟨hi', lone⟩
        | tr ds' => exact if_pos ⟨hi', lone⟩
      · refine ⟨h.np, by simpa using h.ln, ?_, fun j e he => ?_, fun j x he => ?_, fun j he => ?_, fun j x he => ?_, fun j x he => ?_, fun j ds' hj he => ?_, fun j ds' he => ?_, fun j x he => (set_get he).elim (fun q => (nomatch q.2)) fun q => by show (s.sl.set i _)[j]? = _; rw [List.getElem?_set_ne (Ne.symm q.1)]; exact h.ex j x q.2⟩
        · show s.np + (s.sl.set i _).length ≤ _; simp; exact h.ge
        · rcases set_get he with ⟨rfl, q⟩ | ⟨hj, q⟩
          · cases q
          · show (s.sl.set i _)[j]? = _; rw [List.getElem?_set_ne (Ne.symm hj)]; exact h.da j e q
        · rcases set_get he with ⟨rfl, q⟩ | ⟨hj, q⟩
          · cases q
            refine ⟨List.getElem?_set_self hi', ?_⟩
            show S.cellAt _ (s.np + j) = _
            rw [ca, if_neg (by omega), if_pos rfl]
          · obtain ⟨y1, y2⟩ := h.ow j x q
            have hj2 : j < s.sl.length := (List.getElem?_eq_some_iff.mp y1).1
            refine ⟨by show (s.sl.set i _)[j]? = _; rw [List.getElem?_set_ne (Ne.symm hj)]; exact y1, ?_⟩
            show S.cellAt _ (s.np + j) = _
            rw [ca, if_neg (by unfold S.base at h2; omega), if_neg (by omega)]
            exact y2
        · rcases set_get he with ⟨rfl, q⟩ | ⟨hj, q⟩
          · cases q
          · exact ⟨by show (s.sl.set i _)[j]? = _; rw [List.getElem?_set_ne (Ne.symm hj)]; exact (h.ar j q).1, (h.ar j q).2⟩
        · have hj : j < a.io.length := (List.getElem?_eq_some_iff.mp he).1
          have hnp := h.np
          rw [ca, if_neg (by unfold S.base at h2; omega), if_neg (by omega)]
          exact h.io j x he
        · rcases set_get he with ⟨rfl, q⟩ | ⟨hj, q⟩
          · cases q; exact .inl rfl
          · exact h.hm j x q
        · have hj' : j < s.sl.length := by simpa using hj
          have he : S.cellAt _ (s.np + j) = _ := he
          rw [ca, if_neg (by unfold S.base at h2; omega)] at he
          by_cases hji : j = i
          · subst hji; rw [if_pos rfl] at he; cases he
          · rw [if_neg (by omega)] at he
            have := h.lk j ds' hj' he
            show (a.sl.set i _)[j]? = _ ∨ (a.sl.set i _)[j]? = _
            rw [List.getElem?_set_ne (Ne.symm hji)]
            exact this
        · rcases set_get he with ⟨rfl, q⟩ | ⟨hj, q⟩
          · cases q
          · have hj2 : j < a.sl.length := (List.getElem?_eq_some_iff.mp q).1
            have hln := h.ln
            show S.cellAt _ (s.np + j) = _
            rw [ca, if_neg (by unfold S.base at h2; omega), if_neg (by omega)]
            exact h.lo j ds' q
      · rw [ca, if_neg (fun z => hn (by rw [z])), if_neg (by omega)]
    | td ds =>
      obtain ⟨c, rfl, h2, h3, h4⟩ := hr
      cases ha
      have hh : s.np + i < s.base := by unfold S.base; omega
      have hge := h.ge
      have ca : ∀ (c' : Nat) (sl' : List (Option R)), (⟨sl', (s.ce.set (s.np + i) (.dv ds)).set c .dead, s.np⟩ : S).cellAt c' = if c' = c then .dead else if c' = s.np + i then .dv ds else s.cellAt c' := fun c' sl' => by
        unfold S.cellAt
        simp only [List.getElem?_set, List.length_set]
        by_cases q1 : c = c'
        · subst q1; simp [h3]
        · by_cases q2 : s.np + i = c'
          · subst q2; simp [q1, Ne.symm q1, Nat.lt_of_lt_of_le hh hge]
          · simp [q1, q2, Ne.symm q1, Ne.symm q2]
      refine ⟨⟨s.sl.set i (some (.own (s.np + i))), (s.ce.set (s.np + i) (.dv ds)).set c .dead, s.np⟩, ?_, ?_, rfl, List.length_set .., by simp, fun c' hb hn => ?_⟩
      · unfold asg0
        simp only
        rw [if_neg (by omega), h4]
        simp only
        have nk := fun ds' => not_lk h hi hl (ds := ds')
        have lone := lone_ok h (i := i)
        cases q : s.cellAt (s.np + i) with
        | lk ds' => exact absurd q (nk ds')
        | dead => exact if_pos ⟨hi', lone⟩
        | lv ds' => exact if_pos ⟨hi', lone⟩
        | fz ds' => exact if_pos ⟨hi', lone⟩
        | dv ds' => exact if_pos ⟨hi', lone⟩
        | tr ds' => exact if_pos ⟨hi', lone⟩
      · refine ⟨h.np, by simpa using h.ln, ?_, fun j e he => ?_, fun j x he => ?_, fun j he => ?_, fun j x he => ?_, fun j x he => ?_, fun j ds' hj he => ?_, fun j ds' he => ?_, fun j x he => (set_get he).elim (fun q => (nomatch q.2)) fun q => by show (s.sl.set i _)[j]? = _; rw [List.getElem?_set_ne (Ne.symm q.1)]; exact h.ex j x q.2⟩
        · show s.np + (s.sl.set i _).length ≤ _; simp; exact h.ge
        · rcases set_get he with ⟨rfl, q⟩ | ⟨hj, q⟩
          · cases q
          · show (s.sl.set i _)[j]? = _; rw [List.getElem?_set_ne (Ne.symm hj)]; exact h.da j e q
        · rcases set_get he with ⟨rfl, q⟩ | ⟨hj, q⟩
          · cases q
            refine ⟨List.getElem?_set_self hi', ?_⟩
            show S.cellAt _ (s.np + j) = _
            rw [ca, if_neg (by omega), if_pos rfl]
          · obtain ⟨y1, y2⟩ := h.ow j x q
            have hj2 : j < s.sl.length := (List.getElem?_eq_some_iff.mp y1).1
            refine ⟨by show (s.sl.set i _)[j]? = _; rw [List.getElem?_set_ne (Ne.symm hj)]; exact y1, ?_⟩
            show S.cellAt _ (s.np + j) = _
            rw [ca, if_neg (by unfold S.base at h2; omega), if_neg (by omega)]
            exact y2
        · rcases set_get he with ⟨rfl, q⟩ | ⟨hj, q⟩
          · cases q
          · exact ⟨by show (s.sl.set i _)[j]? = _; rw [List.getElem?_set_ne (Ne.symm hj)]; exact (h.ar j q).1, (h.ar j q).2⟩
        · have hj : j < a.io.length := (List.getElem?_eq_some_iff.mp he).1
          have hnp := h.np
          rw [ca, if_neg (by unfold S.base at h2; omega), if_neg (by omega)]
          exact h.io j x he
        · rcases set_get he with ⟨rfl, q⟩ | ⟨hj, q⟩
          · cases q; exact .inl rfl
          · exact h.hm j x q
        · have hj' : j < s.sl.length := by simpa using hj
          have he : S.cellAt _ (s.np + j) = _ := he
          rw [ca, if_neg (by unfold S.base at h2; omega)] at he
          by_cases hji : j = i
          · subst hji; rw [if_pos rfl] at he; cases he
          · rw [if_neg (by omega)] at he
            have := h.lk j ds' hj' he
            show (a.sl.set i _)[j]? = _ ∨ (a.sl.set i _)[j]? = _
            rw [List.getElem?_set_ne (Ne.symm hji)]
            exact this
        · rcases set_get he with ⟨rfl, q⟩ | ⟨hj, q⟩
          · cases q
          · have hj2 : j < a.sl.length := (List.getElem?_eq_some_iff.mp q).1
            have hln := h.ln
            show S.cellAt _ (s.np + j) = _
            rw [ca, if_neg (by unfold S.base at h2; omega), if_neg (by omega)]
            exact h.lo j ds' q
      · rw [ca, if_neg (fun z => hn (by rw [z])), if_neg (by omega)]
    | tz ds =>
      obtain ⟨c, rfl, h2, h3, h4⟩ := hr
      cases ha
      have hh : s.np + i < s.base := by unfold S.base; omega
      have hge := h.ge
      have ca : ∀ (c' : Nat) (sl' : List (Option R)), (⟨sl', (s.ce.set (s.np + i) (.tr ds)).set c .dead, s.np⟩ : S).cellAt c' = if c' = c then .dead else if c' = s.np + i then .tr ds else s.cellAt c' := fun c' sl' => by
        unfold S.cellAt
        simp only [List.getElem?_set, List.length_set]
        by_cases q1 : c = c'
        · subst q1; simp [h3]
        · by_cases q2 : s.np + i = c'
          · subst q2; simp [q1, Ne.symm q1, Nat.lt_of_lt_of_le hh hge]
          · simp [q1, q2, Ne.symm q1, Ne.symm q2]
      refine ⟨⟨s.sl.set i (some (.own (s.np + i))), (s.ce.set (s.np + i) (.tr ds)).set c .dead, s.np⟩, ?_, ?_, rfl, List.length_set .., by simp, fun c' hb hn => ?_⟩
      · unfold asg0
        simp only
        rw [if_neg (by omega), h4]
        simp only
        have nk := fun ds' => not_lk h hi hl (ds := ds')
        have lone := lone_ok h (i := i)
        cases q : s.cellAt (s.np + i) with
        | lk ds' => exact absurd q (nk ds')
        | dead => exact if_pos ⟨hi', lone⟩
        | lv ds' => exact if_pos ⟨hi', lone⟩
        | fz ds' => exact if_pos ⟨hi', lone⟩
        | dv ds' => exact if_pos ⟨hi', lone⟩
        | tr ds' => exact if_pos ⟨hi', lone⟩
      · refine ⟨h.np, by simpa using h.ln, ?_, fun j e he => ?_, fun j x he => ?_, fun j he => ?_, fun j x he => ?_, fun j x he => ?_, fun j ds' hj he => ?_, fun j ds' he => ?_, fun j x he => (set_get he).elim (fun q => (nomatch q.2)) fun q => by show (s.sl.set i _)[j]? = _; rw [List.getElem?_set_ne (Ne.symm q.1)]; exact h.ex j x q.2⟩
        · show s.np + (s.sl.set i _).length ≤ _; simp; exact h.ge
        · rcases set_get he with ⟨rfl, q⟩ | ⟨hj, q⟩
          · cases q
          · show (s.sl.set i _)[j]? = _; rw [List.getElem?_set_ne (Ne.symm hj)]; exact h.da j e q
        · rcases set_get he with ⟨rfl, q⟩ | ⟨hj, q⟩
          · cases q
            refine ⟨List.getElem?_set_self hi', ?_⟩
            show S.cellAt _ (s.np + j) = _
            rw [ca, if_neg (by omega), if_pos rfl]
          · obtain ⟨y1, y2⟩ := h.ow j x q
            have hj2 : j < s.sl.length := (List.getElem?_eq_some_iff.mp y1).1
            refine ⟨by show (s.sl.set i _)[j]? = _; rw [List.getElem?_set_ne (Ne.symm hj)]; exact y1, ?_⟩
            show S.cellAt _ (s.np + j) = _
            rw [ca, if_neg (by unfold S.base at h2; omega), if_neg (by omega)]
            exact y2
        · rcases set_get he with ⟨rfl, q⟩ | ⟨hj, q⟩
          · cases q
          · exact ⟨by show (s.sl.set i _)[j]? = _; rw [List.getElem?_set_ne (Ne.symm hj)]; exact (h.ar j q).1, (h.ar j q).2⟩
        · have hj : j < a.io.length := (List.getElem?_eq_some_iff.mp he).1
          have hnp := h.np
          rw [ca, if_neg (by unfold S.base at h2; omega), if_neg (by omega)]
          exact h.io j x he
        · rcases set_get he with ⟨rfl, q⟩ | ⟨hj, q⟩
          · cases q; exact .inl rfl
          · exact h.hm j x q
        · have hj' : j < s.sl.length := by simpa using hj
          have he : S.cellAt _ (s.np + j) = _ := he
          rw [ca, if_neg (by unfold S.base at h2; omega)] at he
          by_cases hji : j = i
          · subst hji; rw [if_pos rfl] at he; cases he
          · rw [if_neg (by omega)] at he
            have := h.lk j ds' hj' he
            show (a.sl.set i _)[j]? = _ ∨ (a.sl.set i _)[j]? = _
            rw [List.getElem?_set_ne (Ne.symm hji)]
            exact this
        · rcases set_get he with ⟨rfl, q⟩ | ⟨hj, q⟩
          · cases q
          · have hj2 : j < a.sl.length := (List.getElem?_eq_some_iff.mp q).1
            have hln := h.ln
            show S.cellAt _ (s.np + j) = _
            rw [ca, if_neg (by unfold S.base at h2; omega), if_neg (by omega)]
            exact h.lo j ds' q
      · rw [ca, if_neg (fun z => hn (by rw [z])), if_neg (by omega)]
    | va j => cases ha
  · cases ha
theorem dj_set {i : Nat} (h : J f a v a1) (ha : a1.asg i v = some a2) : DJ (setS i f) a a2 := fun s hs => by
  obtain ⟨r, s1, e1, p1, n1, q1, k1⟩ := h s hs
  obtain ⟨s2, e2, q2, _⟩ := asg_abs q1 p1 ha
  exact ⟨s2.tr, by unfold setS; rw [e1, Res.bind_ok, e2, Res.bind_ok]; rfl, q2.tr⟩
theorem dj_expr (h : J f a v a1) : DJ (exprS f) a a1 := fun s hs => by
  obtain ⟨r, s1, e1, p1, n1, q1, k1⟩ := h s hs
  exact ⟨s1.tr, by unfold exprS; rw [e1, Res.bind_ok]; rfl, q1.tr⟩
theorem dj_skip : DJ skipS a a := fun s h => ⟨s, rfl, h⟩
theorem RRep.asg (hr : RRep s r v) (hv : ∀ i, v ≠ .va i) (hb : s'.base = s.base) (hl : s'.ce.length = s.ce.length) (hc : ∀ c, s.base ≤ c → r = .own c → s'.cellAt c = s.cellAt c) : RRep s' r v := by
  cases v with
  | da d => exact hr
  | xc x => exact hr
  | te ds =>
    obtain ⟨c, h1, h2, h3, h4⟩ := hr
    exact ⟨c, h1, by rw [hb]; exact h2, by rw [hl]; exact h3, by rw [hc c h2 h1]; exact h4⟩
  | td ds =>
    obtain ⟨c, h1, h2, h3, h4⟩ := hr
    exact ⟨c, h1, by rw [hb]; exact h2, by rw [hl]; exact h3, by rw [hc c h2 h1]; exact h4⟩
  | tz ds =>
    obtain ⟨c, h1, h2, h3, h4⟩ := hr
    exact ⟨c, h1, by rw [hb]; exact h2, by rw [hl]; exact h3, by rw [hc c h2 h1]; exact h4⟩
  | va i => exact absurd rfl (hv i)
theorem asg_nva {i : Nat} (ha : a.asg i v = some a') : ∀ j, v ≠ .va j := fun j e => by
  subst e
  unfold AE.asg at ha
  split at ha <;> cases ha
theorem waits_ok (h : RRep s r v) (hv : ∀ j, v ≠ .va j) {i : Nat} (hi : i < s.sl.length) : waits i s r = true := by
  cases v with
  | da d => cases (show r = .sh d from h); rfl
  | xc x => cases (show r = .ex x from h); rfl
  | te ds =>
    obtain ⟨c, rfl, h2, _, _⟩ := h
    unfold waits
    simp only [bne_iff_ne]
    unfold S.base at h2
    omega
  | td ds =>
    obtain ⟨c, rfl, h2, _, _⟩ := h
    unfold waits
    simp only [bne_iff_ne]
    unfold S.base at h2
    omega
  | tz ds =>
    obtain ⟨c, rfl, h2, _, _⟩ := h
    unfold waits
    simp only [bne_iff_ne]
    unfold S.base at h2
    omega
  | va i => exact absurd rfl (hv i)
theorem asg_lt {i : Nat} (ha : a.asg i v = some a') : i < a.sl.length := by
  unfold AE.asg at ha
  split at ha
  · rename_i h; exact h.1
  · cases ha
theorem dj_par2 {i j : Nat} (h : JA t a [v1, v2] a1) (h1 : a1.asg i v1 = some a2) (h2 : a2.asg j v2 = some a3) : DJ (par2S i j t) a a3 := fun s hs => by
  obtain ⟨rs, s1, e1, p1, n1, q1, k1⟩ := h s hs
  cases p1 with
  | cons x1 p1 c1 =>
  rename_i r1 rs1
  cases p1 with
  | cons x2 p2 c2 =>
  rename_i r2 rs2
  cases p2
  obtain ⟨s2, e2, q2, b1, b2, b3, b4⟩ := asg_abs q1 x1 h1
  have x2' : RRep s2 r2 v2 := x2.asg (asg_nva h2) (by unfold S.base; rw [b1, b2]) b3 fun c hb hc => b4 c hb fun z => c1 c z hb (by rw [hc]; exact List.mem_cons_self)
  obtain ⟨s3, e3, q3, _⟩ := asg_abs q2 x2' h2
  refine ⟨s3.tr, ?_, q3.tr⟩
  unfold par2S
  rw [e1, Res.bind_ok]
  show (if waits i s1 r2 = true then _ else _) = _
  rw [if_pos (waits_ok x2 (asg_nva h2) (by rw [q1.ln]; exact asg_lt h1)), e2, Res.bind_ok, e3, Res.bind_ok]
  rfl
def AE.setMany : List Nat → List D → AE → Option AE
  | [], [], a => some a
  | i :: is, d :: ds, a => match a.asg i (.da d) with
    | some a1 => AE.setMany is ds a1
    | none => none
  | _, _, _ => none
theorem dj_sub {fi : ES} {i j : Nat} {k : Int} {ds : List D} {c0 : Cell} (h : J f a v a1) (hc0 : a1.cell i = some c0) (hi : J fi a1 (.da (.int k)) a2) (hf : a2.frz v = some (d, a3)) (hc : a3.cell i = some (.lv ds)) (hk : ixN ds.length k = some j) :
    DJ (subS (varS i) fi f) a (a3.setC i (.lv (ds.set j d))) := fun s hs => by
  obtain ⟨r, s1, e1, p1, n1, q1, k1⟩ := h s hs
  obtain ⟨m, w1, w2, w3, _⟩ := q1.home hc0
  obtain ⟨ri, s2, e2, p2, n2, q2, k2⟩ := hi s1 q1
  cases (show ri = .sh (.int k) from p2)
  obtain ⟨s4, y1, y2, y3, y4, y5, y6⟩ := frz_abs q2 (p1.fr k2) hf
  have hm : s4.sl[i]? = some (some (.own m)) := by rw [y4, k2.sl]; exact w1
  obtain ⟨m', x1, x2, x3, _⟩ := y2.home hc
  rw [hm] at x1
  cases x1
  refine ⟨(s4.put m (.lv (ds.set j d))).tr, ?_, (y2.put hc hm (fun _ _ => trivial)).tr⟩
  unfold subS
  rw [e1, Res.bind_ok]
  unfold varS
  rw [w1, Res.bind_ok, e2, Res.bind_ok]
  unfold putIx putAt
  simp only [S.look, y1, x3, hk]
  rfl
/-! ### blocks -/
theorem bj_g {C : Prop} [Decidable C] (h : C → BJ st a m o) : BJ st a (if C then m else none) o := fun b e => by
  by_cases hc : C
  · rw [if_pos hc] at e; exact h hc b e
  · rw [if_neg hc] at e; cases e
theorem bj_bind {m0 : Option γ} {k : γ → Option β} (h : ∀ x, m0 = some x → BJ st a (k x) o) : BJ st a (m0.bind k) o := fun b e => by
  cases q : m0 with
  | none => rw [q] at e; cases e
  | some x => rw [q] at e; exact h x q b e
theorem bj_none : BJ st a (none : Option β) o := fun b e => by cases e
theorem bj_d (h1 : DJ S1 a a1) (h2 : BJ S2 a1 m o) : BJ (seqS S1 S2) a m o := fun b e s hs => by
  obtain ⟨s1, e1, q1⟩ := h1 s hs
  obtain ⟨s2, q2⟩ := h2 b e s1 q1
  exact ⟨s2, by unfold seqS; rw [e1]; exact q2⟩
theorem bj_nx {x : β} (h1 : DJ S1 a a1) (ho : o x = .nx a1) : BJ S1 a (some x) o := fun b e s hs => by
  cases e
  obtain ⟨s1, e1, q1⟩ := h1 s hs
  exact ⟨s1, by rw [ho]; exact ⟨e1, q1⟩⟩
theorem bj_go {x : β} (h1 : DJ S1 a a1) (ho : o x = .go a1) : BJ S1 a (some x) o := fun b e s hs => by
  cases e
  obtain ⟨s1, e1, q1⟩ := h1 s hs
  exact ⟨s1, by rw [ho]; exact ⟨.inl e1, q1⟩⟩
theorem rv_rep (ab : Abs s a) (p : RRep s r v) {rv : Rv} (hr : rvO a v = some rv) : RvRep s r rv := by
  cases v with
  | da d => cases hr; exact .inl p
  | xc x => cases hr
  | te ds =>
    obtain ⟨c, h1, h2, h3, h4⟩ := p
    cases hr
    exact ⟨c, h1, by unfold S.base at h2; omega, h4⟩
  | td ds =>
    obtain ⟨c, h1, h2, h3, h4⟩ := p
    cases hr
    exact ⟨c, h1, by unfold S.base at h2; omega, h4⟩
  | tz ds =>
    obtain ⟨c, h1, h2, h3, h4⟩ := p
    cases hr
    exact ⟨c, h1, by unfold S.base at h2; omega, h4⟩
  | va i =>
    have p : s.sl[i]? = some (some r) := p
    unfold rvO at hr
    simp only at hr
    split at hr
    · rename_i d e1
      rw [ab.da i _ e1] at p
      cases p; cases hr; exact .inl rfl
    · rename_i ds e1
      obtain ⟨x1, x2⟩ := ab.ow i _ e1
      rw [x1] at p
      cases p; cases hr
      exact ⟨_, rfl, Nat.le_add_right _ _, x2⟩
    · rename_i ds e1
      obtain ⟨x1, x2⟩ := ab.ow i _ e1
      rw [x1] at p
      cases p; cases hr
      exact .inr ⟨_, _, rfl, Nat.le_add_right _ _, x2, rfl⟩
    · rename_i ds e1
      obtain ⟨x1, x2⟩ := ab.ow i _ e1
      rw [x1] at p
      cases p; cases hr
      exact ⟨_, rfl, Nat.le_add_right _ _, x2⟩
    · rename_i ds e1
      obtain ⟨x1, x2⟩ := ab.ow i _ e1
      rw [x1] at p
      cases p; cases hr
      exact ⟨_, rfl, Nat.le_add_right _ _, x2⟩
    · rename_i e1
      obtain ⟨x1, x2⟩ := ab.ar i e1
      rw [x1] at p
      cases p; cases hr
      exact ⟨rfl, x2⟩
    · cases hr
theorem bj_ret {x : β} {rv : Rv} (h1 : J f a v a1) (hr : rvO a1 v = some rv) (ho : o x = .rt rv a1.io) : BJ (retS f) a (some x) o := fun b e s hs => by
  cases e
  obtain ⟨r, s1, e1, p1, n1, q1, k1⟩ := h1 s hs
  exact ⟨s1, by rw [ho, show retS f s = .ok (.rt r) s1 by unfold retS; rw [e1, Res.bind_ok]]; exact ⟨.of (rv_rep q1 p1 hr), q1.np, q1.io⟩⟩
theorem bj_retN {x : β} (ho : o x = .rt (.sh .none) a.io) : BJ retN a (some x) o := fun b e s hs => by
  cases e
  exact ⟨s, by rw [ho]; exact ⟨⟨_, rfl, .inl rfl⟩, hs.np, hs.io⟩⟩
theorem seq_rt {v : Rv} (h : RtRep (S1 s) s' v) : seqS S1 S2 s = S1 s := by
  unfold seqS
  rcases h.cases with ⟨x, _, e⟩ | ⟨r, e, _⟩ <;> rw [e]
theorem bj_stop (h : BJ S1 a m o) (hs : ∀ b, m = some b → ∀ a', o b ≠ .nx a' ∧ o b ≠ .go a') : BJ (seqS S1 S2) a m o := fun b e s hs' => by
  obtain ⟨s1, q1⟩ := h b e s hs'
  refine ⟨s1, ?_⟩
  cases ho : o b with
  | nx a' => exact absurd ho (hs b e a').1
  | go a' => exact absurd ho (hs b e a').2
  | bk a' => rw [ho] at q1; exact ⟨by unfold seqS; rw [q1.1], q1.2⟩
  | rt v a' => rw [ho] at q1; rw [seq_rt q1.1]; exact q1
theorem bj_retq {x : β} {rv : Rv} (h1 : J f a v a1) (hr : rvO a1 v = some rv) (ho : o x = .rt rv a1.io) : BJ (seqS (retS f) S2) a (some x) o := bj_stop (bj_ret h1 hr ho) fun b e a' => by cases e; rw [ho]; exact ⟨Out.noConfusion, Out.noConfusion⟩
/-- what is known may be less -/
inductive WkL : List AV → List AV → Prop
  | nil : WkL [] []
  | s {v : AV} {l l' : List AV} : WkL l l' → WkL (v :: l) (v :: l')
  | d {v : AV} {l l' : List AV} : (∀ ds, v ≠ .ow (.lk ds)) → (∀ ds, v ≠ .lo ds) → WkL l l' → WkL (v :: l) (.un :: l')
  | k {ds : List D} {l l' : List AV} : WkL l l' → WkL (.ow (.lk ds) :: l) (.lo ds :: l')
structure Wk (a a' : AE) : Prop where
  sl : WkL a.sl a'.sl
  io : a'.io = a.io
theorem WkL.refl : ∀ l : List AV, WkL l l
  | [] => .nil
  | _ :: l => .s (WkL.refl l)
theorem Wk.refl : Wk a a := ⟨WkL.refl _, rfl⟩
theorem WkL.len : ∀ {l l' : List AV}, WkL l l' → l'.length = l.length
  | _, _, .nil => rfl
  | _, _, .s h => by simp [WkL.len h]
  | _, _, .d _ _ h => by simp [WkL.len h]
  | _, _, .k h => by simp [WkL.len h]
theorem WkL.get : ∀ {l l' : List AV} {i : Nat} {v : AV}, WkL l l' → l'[i]? = some v → v = .un ∨ l[i]? = some v ∨ ∃ ds, v = .lo ds ∧ l[i]? = some (.ow (.lk ds))
  | _, _, _, _, .nil, e => by simp at e
  | _, _, 0, _, .s _, e => .inr (.inl e)
  | _, _, 0, _, .d _ _ _, e => .inl (Option.some.inj e).symm
  | _, _, 0, _, .k _, e => .inr (.inr ⟨_, (Option.some.inj e).symm, rfl⟩)
  | _, _, i + 1, v, .s h, e => WkL.get (i := i) (v := v) h e
  | _, _, i + 1, v, .d _ _ h, e => WkL.get (i := i) (v := v) h e
  | _, _, i + 1, v, .k h, e => WkL.get (i := i) (v := v) h e
theorem WkL.lk : ∀ {l l' : List AV} {i : Nat} {ds : List D}, WkL l l' → l[i]? = some (.ow (.lk ds)) ∨ l[i]? = some (.lo ds) → l'[i]? = some (.ow (.lk ds)) ∨ l'[i]? = some (.lo ds)
  | _, _, _, _, .nil, e => by simp at e
  | _, _, 0, _, .s _, e => e
  | _, _, 0, ds, .d h1 h2 _, e => by
    rcases e with e | e
    · exact absurd (Option.some.inj e) (h1 ds)
    · exact absurd (Option.some.inj e) (h2 ds)
  | _, _, 0, ds, .k _, e => by
    rcases e with e | e
    · cases e; exact .inr rfl
    · cases e
  | _, _, i + 1, ds, .s h, e => WkL.lk (i := i) (ds := ds) h e
  | _, _, i + 1, ds, .d _ _ h, e => WkL.lk (i := i) (ds := ds) h e
  | _, _, i + 1, ds, .k h, e => WkL.lk (i := i) (ds := ds) h e
theorem Abs.wk (h : Abs s a) (w : Wk a a') : Abs s a' where
  np := by rw [w.io]; exact h.np
  ln := by rw [w.sl.len]; exact h.ln
  ge := h.ge
  da := fun i d e => by
    rcases w.sl.get e with q | q | ⟨ds, q, _⟩
    · cases q
    · exact h.da i d q
    · cases q
  ow := fun i c e => by
    rcases w.sl.get e with q | q | ⟨ds, q, _⟩
    · cases q
    · exact h.ow i c q
    · cases q
  ar := fun i e => by
    rcases w.sl.get e with q | q | ⟨ds, q, _⟩
    · cases q
    · exact h.ar i q
    · cases q
  io := by rw [w.io]; exact h.io
  hm := h.hm
  lk := fun i ds hi e => w.sl.lk (h.lk i ds hi e)
  lo := fun i ds e => by
    rcases w.sl.get e with q | q | ⟨ds', q, q2⟩
    · cases q
    · exact h.lo i ds q
    · cases q
      exact (h.ow i _ q2).2
  ex := fun i d e => by
    rcases w.sl.get e with q | q | ⟨ds, q, _⟩
    · cases q
    · exact h.ex i d q
    · cases q
theorem wk_da {d : D} {l l' : List AV} (h : WkL l l') : WkL (.da d :: l) (.un :: l') := .d (fun _ => AV.noConfusion) (fun _ => AV.noConfusion) h
theorem wk_ar {l l' : List AV} (h : WkL l l') : WkL (.ar :: l) (.un :: l') := .d (fun _ => AV.noConfusion) (fun _ => AV.noConfusion) h
theorem wk_lv {ds : List D} {l l' : List AV} (h : WkL l l') : WkL (.ow (.lv ds) :: l) (.un :: l') := .d (fun _ e => by cases e) (fun _ => AV.noConfusion) h
theorem dj_wk (h : DJ st a a1) (w : Wk a1 a2) : DJ st a a2 := fun s hs => by
  obtain ⟨s1, e1, q1⟩ := h s hs
  exact ⟨s1, e1, q1.wk w⟩
theorem bj_if (hu : JT u a b a1) (h1 : b = true → BJ S1 a1 m1 o) (h2 : b = false → BJ S2 a1 m2 o) : BJ (ifS u S1 S2) a (if b = true then m1 else m2) o := fun x e s hs => by
  obtain ⟨s1, e1, q1, _⟩ := hu s hs
  cases b with
  | true =>
    obtain ⟨s2, q2⟩ := h1 rfl x (by simpa using e) s1.tr q1.tr
    exact ⟨s2, by unfold ifS; rw [e1, Res.bind_ok, if_pos rfl]; exact q2⟩
  | false =>
    obtain ⟨s2, q2⟩ := h2 rfl x (by simpa using e) s1.tr q1.tr
    exact ⟨s2, by unfold ifS; rw [e1, Res.bind_ok, if_neg Bool.false_ne_true]; exact q2⟩
theorem bj_ifr (hu : JT u a b a1) (h1 : b = true → BJ (seqS S1 S3) a1 m1 o) (h2 : b = false → BJ (seqS S2 S3) a1 m2 o) : BJ (seqS (ifS u S1 S2) S3) a (if b = true then m1 else m2) o := fun x e s hs => by
  obtain ⟨s1, e1, q1, _⟩ := hu s hs
  cases b with
  | true =>
    obtain ⟨s2, q2⟩ := h1 rfl x (by simpa using e) s1.tr q1.tr
    refine ⟨s2, ?_⟩
    unfold seqS at q2 ⊢
    unfold ifS
    rw [e1, Res.bind_ok, if_pos rfl]
    exact q2
  | false =>
    obtain ⟨s2, q2⟩ := h2 rfl x (by simpa using e) s1.tr q1.tr
    refine ⟨s2, ?_⟩
    unfold seqS at q2 ⊢
    unfold ifS
    rw [e1, Res.bind_ok, if_neg Bool.false_ne_true]
    exact q2
theorem bj_assoc (h : BJ (seqS S1 (seqS S2 S3)) a m o) : BJ (seqS (seqS S1 S2) S3) a m o := fun b e s hs => by
  obtain ⟨s1, q1⟩ := h b e s hs
  refine ⟨s1, ?_⟩
  have : seqS (seqS S1 S2) S3 s = seqS S1 (seqS S2 S3) s := by
    unfold seqS
    cases S1 s with
    | bad => rfl
    | exc x s' => rfl
    | ok fl' s' => cases fl' <;> rfl
  rw [this]
  exact q1
theorem bj_skip (h : BJ S2 a m o) : BJ (seqS skipS S2) a m o := bj_d dj_skip h
def letP {α β : Type} (e : α) (k : α → Option β) : Option β := k e
theorem bj_set {k : γ → Option β} {e : γ} {A : γ → AE} (h1 : DJ S1 a (A e)) (h2 : ∀ x, BJ S2 (A x) (k x) o) : BJ (seqS S1 S2) a (letP e k) o := bj_d h1 (h2 e)
theorem bj_seqb {k : γ → Option β} {mm : Option γ} {A : γ → AE} (h1 : BJ S1 a mm (fun x => .nx (A x))) (h2 : ∀ x, BJ S2 (A x) (k x) o) : BJ (seqS S1 S2) a (mm.bind k) o := fun b e s hs => by
  cases q : mm with
  | none => rw [q] at e; cases e
  | some x =>
    rw [q] at e
    obtain ⟨s1, q1, q2⟩ := h1 x q s hs
    obtain ⟨s2, q3⟩ := h2 x b e s1 q2
    exact ⟨s2, by unfold seqS; rw [q1]; exact q3⟩
/-- a loop's end: on, or out -/
inductive Lr (σ ρ : Type) where
  | go (x : σ)
  | rt (r : ρ)
inductive Fw (σ ρ : Type) where
  | nx (x : σ)
  | bk (x : σ)
  | rt (r : ρ)
theorem bj_seqL {σ ρ : Type} {k : Lr σ ρ → Option β} {mm : Option (Lr σ ρ)} {A : σ → AE} {V : ρ → Rv} {B : ρ → List Cell} (h1 : BJ S1 a mm (fun x => match x with | .go x => .nx (A x) | .rt r => .rt (V r) (B r)))
    (h2 : ∀ x, BJ S2 (A x) (k (.go x)) o) (h3 : ∀ r, ∃ b, k (.rt r) = some b ∧ o b = .rt (V r) (B r)) : BJ (seqS S1 S2) a (mm.bind k) o := fun b e s hs => by
  cases q : mm with
  | none => rw [q] at e; cases e
  | some x =>
    rw [q] at e
    cases x with
    | go x =>
      obtain ⟨s1, q1, q2⟩ := h1 _ q s hs
      obtain ⟨s2, q3⟩ := h2 x b e s1 q2
      exact ⟨s2, by unfold seqS; rw [q1]; exact q3⟩
    | rt r =>
      obtain ⟨s1, q1, q2⟩ := h1 _ q s hs
      obtain ⟨b', h4, h5⟩ := h3 r
      have e : k (.rt r) = some b := e
      rw [h4] at e
      cases e
      exact ⟨s1, by rw [h5, seq_rt q1]; exact ⟨q1, q2⟩⟩
end
theorem ifT {β : Type} {b : Bool} {m k : Option β} {x : β} (hb : b = true) (h : (if b = true then m else k) = some x) : m = some x := by rwa [if_pos hb] at h
theorem ifF {β : Type} {b : Bool} {m k : Option β} {x : β} (hb : b = false) (h : (if b = true then m else k) = some x) : k = some x := by rwa [if_neg (by rw [hb]; exact Bool.false_ne_true)] at h
theorem gE {β : Type} {C : Prop} [Decidable C] {m : Option β} {x : β} (h : (if C then m else none) = some x) : C ∧ m = some x := by
  by_cases hc : C
  · rw [if_pos hc] at h; exact ⟨hc, h⟩
  · rw [if_neg hc] at h; cases h
theorem bE {β γ : Type} {m : Option γ} {k : γ → Option β} {x : β} (h : m.bind k = some x) : ∃ y, m = some y ∧ k y = some x := by
  cases q : m with
  | none => rw [q] at h; cases h
  | some y => rw [q] at h; exact ⟨y, rfl, h⟩
theorem sE {β : Type} {y x : β} (h : some y = some x) : y = x := Option.some.inj h
end E
/-! X4: what is walked; loops; comprehensions. -/
namespace E
open PySem PySem.Spec PyProof.Rows L2
inductive Lk where
  | loc (i : Nat)
  | arg (i : Nat)
def Lk.at (np : Nat) : Lk → Nat
  | .loc i => np + i
  | .arg i => i
def JI (it : IS) (a : AE) (ds : List D) (ls : List Lk) (a1 : AE) : Prop := ∀ s, Abs s a → ∃ s', it s = .ok (ds, ls.map (Lk.at s.np)) s' ∧ Abs s' a1 ∧ Fr s s'
/-- a0: at the begin -/
def AE.lk (a0 a : AE) : RV → Option (List D × List Lk × AE)
  | .da (.list ds) => some (ds, [], a)
  | .da _ => none
  | .te ds => some (ds, [], a)
  | .va i => match a.sl[i]? with
    | some (.da (.list ds)) => some (ds, [], a)
    | some (.ow (.lv ds)) => match a0.sl[i]? with
      | some (.ow (.lv _)) => some (ds, [.loc i], a.setC i (.lk ds))
      | _ => none
    | some (.ow (.lk ds)) => some (ds, [], a)
    | some (.ow (.fz ds)) => some (ds, [], a)
    | some .ar => match a.io[i]?, a0.sl[i]?, a0.io[i]? with
      | some (.lv ds), some .ar, some (.lv _) => some (ds, [.arg i], a.setC i (.lk ds))
      | some (.lk ds), _, _ => some (ds, [], a)
      | some (.fz ds), _, _ => some (ds, [], a)
      | _, _, _ => none
    | _ => none
  | .xc _ => none
  | .td _ => none
  | .tz _ => none
section
variable {s s' s₂ s0 : S} {a a' a0 a1 a2 a3 : AE} {r : R} {v v1 v2 v3 : RV} {f g f1 f2 f3 : ES} {t : AS} {vs : List RV} {d d1 d2 d3 : D} {u u1 u2 : TS'} {b b1 b2 : Bool} {st S1 S2 S3 : SS} {β γ : Type} {m m1 m2 : Option β} {o o1 : β → Out} {it : IS} {ds : List D} {ls : List Lk}
theorem lk_abs (h0 : Abs s0 a0) (k : Fr s0 s) (h : Abs s a) (hr : RRep s r v) (hn : Nw s0 r) (hl : a0.lk a v = some (ds, ls, a')) : ∃ s', lkL s0 r s = .ok (ds, ls.map (Lk.at s0.np)) s' ∧ Abs s' a' ∧ Fr s0 s' ∧ (∀ c, s0.base ≤ c → r ≠ .own c → s'.cellAt c = s.cellAt c) ∧ s'.sl = s.sl ∧ s'.np = s.np ∧ s'.ce.length = s.ce.length := by
  cases v with
  | xc x => cases hl
  | td x => cases hl
  | tz x => cases hl
  | da e =>
    cases (show r = .sh e from hr)
    cases e with
    | list es => cases hl; exact ⟨s, rfl, h, k, fun _ _ _ => rfl, rfl, rfl, rfl⟩
    | none => cases hl
    | bool _ => cases hl
    | int _ => cases hl
    | str _ => cases hl
    | tuple _ => cases hl
    | dict _ => cases hl
  | te es =>
    obtain ⟨c, rfl, h2, h3, h4⟩ := hr
    cases hl
    refine ⟨s.put c (.fz ds), ?_, h.put_te h2, ?_, fun c' _ hn' => by rw [cellAt_put, if_neg (by rintro ⟨z, _⟩; exact hn' (by rw [z]))], rfl, rfl, put_len⟩
    · unfold lkL lockI
      simp only [h4]
      rw [if_neg (by omega)]
      rfl
    · refine ⟨k.np, k.sl, by rw [put_len]; exact k.le, fun c' g1 g2 => ?_⟩
      rw [cellAt_put, if_neg, k.tp c' g1 g2]
      rintro ⟨z, _⟩
      subst z
      rcases hn c' rfl with q | q <;> omega
  | va i =>
    have hr : s.sl[i]? = some (some r) := hr
    unfold AE.lk at hl
    simp only at hl
    split at hl
    · rename_i es e
      cases hl
      rw [h.da i _ e] at hr
      cases hr
      exact ⟨s, rfl, h, k, fun _ _ _ => rfl, rfl, rfl, rfl⟩
    · rename_i es e
      split at hl
      · rename_i es0 e0
        cases hl
        obtain ⟨x1, x2⟩ := h.ow i _ e
        obtain ⟨y1, y2⟩ := h0.ow i _ e0
        rw [x1] at hr
        cases hr
        have hi : i < s.sl.length := (List.getElem?_eq_some_iff.mp x1).1
        have hc : a.cell i = some (.lv ds) := by unfold AE.cell; rw [e]
        refine ⟨s.put (s.np + i) (.lk ds), ?_, h.put hc x1 (fun _ _ => trivial), ⟨k.np, k.sl, by rw [put_len]; exact k.le, fun c' g1 g2 => ?_⟩, fun c' g1 _ => ?_, rfl, rfl, put_len⟩
        · unfold lkL lockI
          simp only [x2]
          rw [if_pos (show s.np + i < s.base by unfold S.base; omega), show s0.cellAt (s.np + i) = .lv es0 by rw [k.np]; exact y2]
          simp only [List.map_cons, List.map_nil, Lk.at, k.np]
        · rw [cellAt_put, if_neg, k.tp c' g1 g2]
          rintro ⟨z, _⟩
          rw [← k.base] at g1
          unfold S.base at g1; omega
        · rw [cellAt_put, if_neg]
          rintro ⟨z, _⟩
          rw [← k.base] at g1
          unfold S.base at g1; omega
      · cases hl
    · rename_i es e
      cases hl
      obtain ⟨x1, x2⟩ := h.ow i _ e
      rw [x1] at hr
      cases hr
      exact ⟨s, by unfold lkL lockI; simp only [x2]; rfl, h, k, fun _ _ _ => rfl, rfl, rfl, rfl⟩
    · rename_i es e
      cases hl
      obtain ⟨x1, x2⟩ := h.ow i _ e
      rw [x1] at hr
      cases hr
      exact ⟨s, by unfold lkL lockI; simp only [x2]; rfl, h, k, fun _ _ _ => rfl, rfl, rfl, rfl⟩
    · rename_i e
      obtain ⟨x1, x2⟩ := h.ar i e
      rw [x1] at hr
      cases hr
      have hi : i < s.sl.length := (List.getElem?_eq_some_iff.mp x1).1
      split at hl
      · rename_i es es0 q1 q2 q3
        cases hl
        have c1 := h.io i _ q1
        have c0 := h0.io i _ q3
        have hc : a.cell i = some (.lv ds) := by unfold AE.cell; rw [e]; exact q1
        refine ⟨s.put i (.lk ds), ?_, h.put hc x1 (fun _ _ => trivial), ⟨k.np, k.sl, by rw [put_len]; exact k.le, fun c' g1 g2 => ?_⟩, fun c' g1 _ => ?_, rfl, rfl, put_len⟩
        · unfold lkL lockI
          simp only [c1]
          rw [if_pos (show i < s.base by unfold S.base; omega), c0]
          rfl
        · rw [cellAt_put, if_neg, k.tp c' g1 g2]
          rintro ⟨z, _⟩
          rw [← k.base] at g1
          unfold S.base at g1; omega
        · rw [cellAt_put, if_neg]
          rintro ⟨z, _⟩
          rw [← k.base] at g1
          unfold S.base at g1; omega
      · rename_i es q1
        cases hl
        have c1 := h.io i _ q1
        exact ⟨s, by unfold lkL lockI; simp only [c1]; rfl, h, k, fun _ _ _ => rfl, rfl, rfl, rfl⟩
      · rename_i es q1
        cases hl
        have c1 := h.io i _ q1
        exact ⟨s, by unfold lkL lockI; simp only [c1]; rfl, h, k, fun _ _ _ => rfl, rfl, rfl, rfl⟩
      · cases hl
    · cases hl
theorem ji_seqT (h : J f a v a1) (q : a1.val v = some (.tuple ds)) (hv : ∀ i, v = .va i → a1.cell i = none) : JI (seqI f) a ds [] a1 := fun s hs => by
  obtain ⟨r, s1, e1, p1, n1, q1, k1⟩ := h s hs
  have l := look_of q1 p1 q
  cases r with
  | sh d =>
    cases (show some d = some (.tuple ds) from l)
    exact ⟨s1, by unfold seqI; rw [e1, Res.bind_ok]; rfl, q1, k1⟩
  | ex _ => cases l
  | own c =>
    rw [look_cell] at l
    cases z : s1.cellAt c <;> rw [z] at l <;> cases l
theorem ji_seq (h : J f a v a1) (hl : a.lk a1 v = some (ds, ls, a2)) : JI (seqI f) a ds ls a2 := fun s hs => by
  obtain ⟨r, s1, e1, p1, n1, q1, k1⟩ := h s hs
  obtain ⟨s2, e2, q2, k2, _⟩ := lk_abs hs k1 q1 p1 n1 hl
  refine ⟨s2, ?_, q2, k2⟩
  unfold seqI
  rw [e1, Res.bind_ok]
  cases r with
  | own c => exact e2
  | ex _ => exact e2
  | sh d =>
    cases d with
    | tuple es => unfold lkL at e2; cases e2
    | none => exact e2
    | bool _ => exact e2
    | int _ => exact e2
    | str _ => exact e2
    | list _ => exact e2
    | dict _ => exact e2
theorem ji_enum (h : J f a v a1) (hl : a.lk a1 v = some (ds, ls, a2)) : JI (enumI (consA f nilA)) a (enumD 0 ds) ls a2 := fun s hs => by
  obtain ⟨r, s1, e1, p1, n1, q1, k1⟩ := h s hs
  obtain ⟨s2, e2, q2, k2, _⟩ := lk_abs hs k1 q1 p1 n1 hl
  refine ⟨s2, ?_, q2, k2⟩
  unfold enumI consA nilA
  rw [e1, Res.bind_ok, Res.bind_ok, Res.bind_ok]
  show enumR s r s1 = _
  rw [enumR_eq (fun es he => by subst he; unfold lkL at e2; cases e2), e2, Res.bind_ok]
theorem ints_of : ∀ {rs : List R} {vs : List RV} {is : List Int} {s : S}, RReps s rs vs → vs = is.map (fun i => RV.da (.int i)) → s.ints rs = some is
  | _, _, [], _, .nil, _ => rfl
  | _, _, i :: is, s, .cons h1 h2 _, e => by
    rw [List.map_cons] at e
    injection e with e1 e2
    subst e1
    cases (show _ = R.sh (.int i) from h1)
    unfold S.ints S.int
    simp only [S.look]
    rw [ints_of h2 e2]
    rfl
  | _, _, [], _, .cons _ _ _, e => by cases e
  | _, _, _ :: _, _, .nil, e => by cases e
def rngL (lo c : Int) (n : Nat) : List Int := (List.range n).map fun i => lo + (i : Nat) * c
theorem rngD_map {lo c : Int} {n : Nat} : rngD lo c n = (rngL lo c n).map PyData.int := by
  unfold rngD rngL
  rw [List.map_map]
  rfl
theorem ji_rng1 {j : Int} (h : JA t a [.da (.int j)] a1) (hs : small62 j) : JI (rngI rng1 t) a ((rngL 0 1 j.toNat).map PyData.int) [] a1 := fun s hs' => by
  obtain ⟨rs, s1, e1, p1, n1, q1, k1⟩ := h s hs'
  refine ⟨s1, ?_, q1, k1⟩
  rw [rngI_def, e1, Res.bind_ok, ints_of (is := [j]) p1 rfl, rngO_some, rng1_eq hs, rngD_map]
  rfl
theorem ji_rng2 {i j : Int} (h : JA t a [.da (.int i), .da (.int j)] a1) (hs : small62 i) (hs2 : small62 j) : JI (rngI rng2 t) a ((rngL i 1 (j - i).toNat).map PyData.int) [] a1 := fun s hs' => by
  obtain ⟨rs, s1, e1, p1, n1, q1, k1⟩ := h s hs'
  refine ⟨s1, ?_, q1, k1⟩
  rw [rngI_def, e1, Res.bind_ok, ints_of (is := [i, j]) p1 rfl, rngO_some, rng2_eq hs hs2, rngD_map]
  rfl
theorem ji_eq {ds' : List D} (h : JI it a ds ls a1) (e : ds = ds') : JI it a ds' ls a1 := e ▸ h
/-! ### targets -/
mutual
def AE.tgt : Tg → D → AE → Option AE
  | .nm i, d, a => a.asg i (.da d)
  | .tp ts, .tuple ds, a => AE.tgts ts ds a
  | _, _, _ => none
def AE.tgts : List Tg → List D → AE → Option AE
  | [], [], a => some a
  | t :: ts, d :: ds, a => match AE.tgt t d a with
    | some a1 => AE.tgts ts ds a1
    | none => none
  | _, _, _ => none
end
mutual
theorem tgt_abs : ∀ {g : Tg} {d : D} {s : S} {a a' : AE}, Abs s a → AE.tgt g d a = some a' → ∃ s', setT g d s = some s' ∧ Abs s' a' ∧ s'.ce = s.ce ∧ s'.np = s.np ∧ s'.sl.length = s.sl.length
  | .nm i, d, s, a, a', h, e => by
    unfold AE.tgt at e
    obtain ⟨s1, q1, q2, _⟩ := asg_abs h (show RRep s (.sh d) (.da d) from rfl) e
    have hi : i < s.sl.length := by rw [h.ln]; exact asg_lt e
    unfold asg0 at q1
    simp only at q1
    rw [if_pos hi] at q1
    cases q1
    exact ⟨_, by unfold setT; rw [if_pos hi], q2, rfl, rfl, List.length_set ..⟩
  | .tp ts, .tuple ds, s, a, a', h, e => by
    unfold AE.tgt at e
    obtain ⟨s1, q1, q2⟩ := tgts_abs h e
    exact ⟨s1, by unfold setT; exact q1, q2⟩
  | .tp ts, .none, _, _, _, _, e => by unfold AE.tgt at e; cases e
  | .tp ts, .bool _, _, _, _, _, e => by unfold AE.tgt at e; cases e
  | .tp ts, .int _, _, _, _, _, e => by unfold AE.tgt at e; cases e
  | .tp ts, .str _, _, _, _, _, e => by unfold AE.tgt at e; cases e
  | .tp ts, .list _, _, _, _, _, e => by unfold AE.tgt at e; cases e
  | .tp ts, .dict _, _, _, _, _, e => by unfold AE.tgt at e; cases e
theorem tgts_abs : ∀ {ts : List Tg} {ds : List D} {s : S} {a a' : AE}, Abs s a → AE.tgts ts ds a = some a' → ∃ s', setTs ts ds s = some s' ∧ Abs s' a' ∧ s'.ce = s.ce ∧ s'.np = s.np ∧ s'.sl.length = s.sl.length
  | [], [], s, a, a', h, e => by
    unfold AE.tgts at e
    cases e
    exact ⟨s, by unfold setTs; rfl, h, rfl, rfl, rfl⟩
  | t :: ts, d :: ds, s, a, a', h, e => by
    unfold AE.tgts at e
    split at e
    · rename_i a1 e1
      obtain ⟨s1, q1, q2, c1, c2, c3⟩ := tgt_abs h e1
      obtain ⟨s2, q3, q4, c4, c5, c6⟩ := tgts_abs q2 e
      exact ⟨s2, by unfold setTs; rw [q1]; exact q3, q4, c4.trans c1, c5.trans c2, c6.trans c3⟩
    · cases e
  | [], _ :: _, _, _, _, _, e => by unfold AE.tgts at e; cases e
  | _ :: _, [], _, _, _, _, e => by unfold AE.tgts at e; cases e
end
/-! ### the head of a loop -/
def AE.free (a : AE) (i : Nat) : Bool := match a.sl[i]? with
  | some .un => true
  | some (.lo _) => true
  | _ => false
theorem forget_abs (h : Abs s a) {i : Nat} (hi : a.free i = true) : Abs (s.forget i) a := by
  have hlt : i < a.sl.length := by
    unfold AE.free at hi
    cases e : a.sl[i]? with
    | none => rw [e] at hi; cases hi
    | some x => exact (List.getElem?_eq_some_iff.mp e).1
  have nda : ∀ {x : AV}, a.sl[i]? = some x → x = .un ∨ ∃ ds, x = .lo ds := fun {x} e => by
    unfold AE.free at hi
    rw [e] at hi
    cases x with
    | un => exact .inl rfl
    | lo ds => exact .inr ⟨ds, rfl⟩
    | da d => cases hi
    | ow c => cases hi
    | ar => cases hi
    | ex _ => cases hi
  have hne : ∀ (j : Nat) (x : AV), a.sl[j]? = some x → (∀ ds, x ≠ .lo ds) → x ≠ .un → j ≠ i := fun j x e h1 h2 q => by
    subst q
    rcases nda e with z | ⟨ds, z⟩
    · exact h2 z
    · exact h1 ds z
  have hce : (s.forget i).ce = s.ce ∨ (s.forget i).ce = s.ce.set (s.np + i) .dead := by
    unfold S.forget
    cases s.cellAt (s.np + i) <;> first | exact .inl rfl | exact .inr rfl
  have hlen : (s.forget i).ce.length = s.ce.length := by rcases hce with q | q <;> rw [q]; simp
  have ca : ∀ c, c ≠ s.np + i → (s.forget i).cellAt c = s.cellAt c := fun c hc => by
    unfold S.cellAt
    rcases hce with q | q <;> rw [q]
    rw [List.getElem?_set_ne (Ne.symm hc)]
  have cl : ∀ ds, (s.forget i).cellAt (s.np + i) = .lk ds ↔ s.cellAt (s.np + i) = .lk ds := fun ds => by
    have hin : s.np + i < s.ce.length := by have := h.ge; have := h.ln; unfold S.base at *; omega
    unfold S.forget
    cases q : s.cellAt (s.np + i) with
    | lk es => simp only [S.cellAt] at q ⊢; rw [q]
    | dead => simp only [S.cellAt] at q ⊢; simp [List.getElem?_set_self hin]
    | lv es => simp only [S.cellAt] at q ⊢; simp [List.getElem?_set_self hin]
    | fz es => simp only [S.cellAt] at q ⊢; simp [List.getElem?_set_self hin]
    | dv es => simp only [S.cellAt] at q ⊢; simp [List.getElem?_set_self hin]
    | tr es => simp only [S.cellAt] at q ⊢; simp [List.getElem?_set_self hin]
  have sl : ∀ j, j ≠ i → (s.forget i).sl[j]? = s.sl[j]? := fun j hj => by
    show (s.sl.set i none)[j]? = _
    rw [List.getElem?_set_ne (Ne.symm hj)]
  refine ⟨h.np, by show (s.sl.set i none).length = _; simpa using h.ln, ?_, fun j d e => ?_, fun j c e => ?_, fun j e => ?_, fun j c e => ?_, fun j c e => ?_, fun j ds hj e => ?_, fun j ds e => ?_, fun j d e => by have := hne j _ e (by simp) (by simp); rw [sl j this]; exact h.ex j d e⟩
  · show s.np + (s.sl.set i none).length ≤ _; rw [hlen]; simpa [S.base] using h.ge
  · have := hne j _ e (by simp) (by simp); rw [sl j this]; exact h.da j d e
  · have := hne j _ e (by simp) (by simp)
    rw [sl j this]
    exact ⟨(h.ow j c e).1, by show (s.forget i).cellAt (s.np + j) = c; rw [ca _ (by omega)]; exact (h.ow j c e).2⟩
  · have := hne j _ e (by simp) (by simp); rw [sl j this]; exact h.ar j e
  · have hj : j < a.io.length := (List.getElem?_eq_some_iff.mp e).1
    rw [ca _ (by have := h.np; omega)]; exact h.io j c e
  · by_cases hj : j = i
    · subst hj
      have e : (s.sl.set j none)[j]? = some (some (.own c)) := e
      rw [List.getElem?_set_self (by rw [h.ln]; exact hlt)] at e
      cases e
    · rw [sl j hj] at e; exact h.hm j c e
  · have hj' : j < s.sl.length := by simpa [S.forget] using hj
    have e : (s.forget i).cellAt (s.np + j) = .lk ds := e
    by_cases hji : j = i
    · subst hji; exact h.lk j ds hj' ((cl ds).mp e)
    · rw [ca _ (by omega)] at e; exact h.lk j ds hj' e
  · show (s.forget i).cellAt (s.np + j) = _
    by_cases hji : j = i
    · subst hji; exact (cl ds).mpr (h.lo j ds e)
    · rw [ca _ (by omega)]; exact h.lo j ds e
def AE.frees (a : AE) (dr : List Nat) : Bool := dr.all a.free
theorem forgets_abs : ∀ {dr : List Nat} {s : S}, Abs s a → a.frees dr = true → Abs (dr.foldl S.forget s) a
  | [], _, h, _ => h
  | i :: dr, s, h, hd => by
    have ⟨h1, h2⟩ : a.free i = true ∧ a.frees dr = true := by simpa [AE.frees] using hd
    exact forgets_abs (dr := dr) (forget_abs h h1) h2
theorem clean_abs {dr : List Nat} (h : Abs s a) (hd : a.frees dr = true) : Abs (s.clean dr) a := forgets_abs h.tr hd
/-! ### unlocking -/
def AE.unl1 (a : AE) : Lk → AE
  | .loc i => match a.sl[i]? with
    | some (.ow (.lk ds)) => ⟨a.sl.set i (.ow (.lv ds)), a.io⟩
    | some (.lo _) => ⟨a.sl.set i .un, a.io⟩
    | _ => a
  | .arg i => match a.io[i]? with
    | some (.lk ds) => ⟨a.sl, a.io.set i (.lv ds)⟩
    | _ => a
def AE.unl (a : AE) (ls : List Lk) : AE := ls.foldl AE.unl1 a
def AE.lkOk (a : AE) : Lk → Bool
  | .loc i => decide (i < a.sl.length)
  | .arg i => decide (i < a.io.length)
theorem unl1_abs (h : Abs s a) {l : Lk} (hl : a.lkOk l = true) : Abs (s.unl [l.at s.np]) (a.unl1 l) ∧ (s.unl [l.at s.np]).np = s.np ∧ (s.unl [l.at s.np]).base = s.base := by
  have hu : ∀ c, s.unl [c] = (match s.cellAt c with | .lk ds => s.put c (.lv ds) | _ => s) := fun c => rfl
  refine ⟨?_, by rw [hu]; cases s.cellAt (l.at s.np) <;> rfl, by rw [hu]; cases s.cellAt (l.at s.np) <;> rfl⟩
  rw [hu]
  cases l with
  | loc i =>
    show Abs (match s.cellAt (s.np + i) with | .lk ds => s.put (s.np + i) (.lv ds) | _ => s) _
    have hi : i < a.sl.length := of_decide_eq_true hl
    have base : (∀ ds, a.sl[i]? ≠ some (.ow (.lk ds))) → (∀ ds, a.sl[i]? ≠ some (.lo ds)) → a.unl1 (.loc i) = a → Abs (match s.cellAt (s.np + i) with | .lk ds => s.put (s.np + i) (.lv ds) | _ => s) (a.unl1 (.loc i)) := fun n1 n2 e => by
      rw [e]
      cases q : s.cellAt (s.np + i) with
      | lk ds =>
        rcases h.lk i ds (by rw [h.ln]; exact hi) q with z | z
        · exact absurd z (n1 ds)
        · exact absurd z (n2 ds)
      | dead => exact h
      | lv ds => exact h
      | fz ds => exact h
      | dv ds => exact h
      | tr ds => exact h
    cases e : a.sl[i]? with
    | none => exact base (by rw [e]; simp) (by rw [e]; simp) (by simp only [AE.unl1, e])
    | some v =>
    cases v with
    | un => exact base (by rw [e]; simp) (by rw [e]; simp) (by simp only [AE.unl1, e])
    | da d => exact base (by rw [e]; simp) (by rw [e]; simp) (by simp only [AE.unl1, e])
    | ex d => exact base (by rw [e]; simp) (by rw [e]; simp) (by simp only [AE.unl1, e])
    | ar => exact base (by rw [e]; simp) (by rw [e]; simp) (by simp only [AE.unl1, e])
    | ow c =>
      cases c with
      | dead => exact base (by rw [e]; simp) (by rw [e]; simp) (by simp only [AE.unl1, e])
      | lv ds => exact base (by rw [e]; simp) (by rw [e]; simp) (by simp only [AE.unl1, e])
      | fz ds => exact base (by rw [e]; simp) (by rw [e]; simp) (by simp only [AE.unl1, e])
      | dv ds => exact base (by rw [e]; simp) (by rw [e]; simp) (by simp only [AE.unl1, e])
      | tr ds => exact base (by rw [e]; simp) (by rw [e]; simp) (by simp only [AE.unl1, e])
      | lk ds =>
        obtain ⟨e1, e2⟩ := h.ow i _ e
        rw [e2]
        have hc : a.cell i = some (.lk ds) := by unfold AE.cell; rw [e]
        have := h.put (c := .lv ds) hc e1 (fun _ _ => trivial)
        unfold AE.setC at this
        rw [e] at this
        have eu : a.unl1 (.loc i) = ⟨a.sl.set i (.ow (.lv ds)), a.io⟩ := by simp only [AE.unl1, e]
        rw [eu]
        exact this
    | lo ds =>
      have e2 := h.lo i _ e
      rw [e2]
      have eu : a.unl1 (.loc i) = ⟨a.sl.set i .un, a.io⟩ := by simp only [AE.unl1, e]
      rw [eu]
      have hh : s.np + i < s.base := by have := h.ln; unfold S.base; omega
      refine ⟨h.np, by show s.sl.length = (a.sl.set i .un).length; simpa using h.ln, by rw [put_len]; exact h.ge, fun j d q => ?_, fun j c q => ?_, fun j q => ?_, fun j c q => ?_, h.hm, fun j es hj q => ?_, fun j es q => ?_, fun j x q => (set_get q).elim (fun z => (nomatch z.2)) fun z => h.ex j x z.2⟩
      · rcases set_get q with ⟨_, z⟩ | ⟨_, q⟩
        · cases z
        · exact h.da j d q
      · rcases set_get q with ⟨_, z⟩ | ⟨hj, q⟩
        · cases z
        · exact ⟨(h.ow j c q).1, by rw [cellAt_put, if_neg (by rintro ⟨z, _⟩; have z : s.np + j = s.np + i := z; omega)]; exact (h.ow j c q).2⟩
      · rcases set_get q with ⟨_, z⟩ | ⟨_, q⟩
        · cases z
        · exact h.ar j q
      · have hj : j < a.io.length := (List.getElem?_eq_some_iff.mp q).1
        rw [cellAt_put, if_neg (by rintro ⟨z, _⟩; have := h.np; omega)]
        exact h.io j c q
      · rw [cellAt_put] at q
        by_cases hji : j = i
        · subst hji
          rw [if_pos ⟨rfl, Nat.lt_of_lt_of_le hh h.ge⟩] at q
          cases q
        · rw [if_neg (by rintro ⟨z, _⟩; have z : s.np + j = s.np + i := z; omega)] at q
          show (a.sl.set i _)[j]? = _ ∨ (a.sl.set i _)[j]? = _
          rw [List.getElem?_set_ne (Ne.symm hji)]
          exact h.lk j es hj q
      · rcases set_get q with ⟨_, z⟩ | ⟨hj, q⟩
        · cases z
        · rw [cellAt_put, if_neg (by rintro ⟨z, _⟩; have z : s.np + j = s.np + i := z; omega)]
          exact h.lo j es q
  | arg i =>
    show Abs (match s.cellAt i with | .lk ds => s.put i (.lv ds) | _ => s) _
    have hi : i < a.io.length := of_decide_eq_true hl
    have hnp := h.np
    have hge := h.ge
    have ec : a.io[i]? = some (s.cellAt i) := by
      rw [List.getElem?_eq_getElem hi, h.io i _ (List.getElem?_eq_getElem hi)]
    unfold AE.unl1
    simp only [ec]
    cases q : s.cellAt i with
    | lk ds =>
      simp only
      refine ⟨by show s.np = (a.io.set i _).length; simpa using h.np, h.ln, by rw [put_len]; exact h.ge, h.da, fun j c e => ?_, h.ar, fun j c e => ?_, h.hm, fun j es hj e => ?_, fun j es e => ?_, h.ex⟩
      · exact ⟨(h.ow j c e).1, by rw [cellAt_put, if_neg (by rintro ⟨z, _⟩; have z : s.np + j = i := z; omega)]; exact (h.ow j c e).2⟩
      · rcases set_get e with ⟨rfl, z⟩ | ⟨hj, e⟩
        · rw [z, cellAt_put, if_pos ⟨rfl, by unfold S.base at hge; omega⟩]
        · rw [cellAt_put, if_neg (by rintro ⟨z, _⟩; exact hj z)]; exact h.io j c e
      · rw [cellAt_put, if_neg (by rintro ⟨z, _⟩; have z : s.np + j = i := z; omega)] at e
        exact h.lk j es hj e
      · rw [cellAt_put, if_neg (by rintro ⟨z, _⟩; have z : s.np + j = i := z; omega)]
        exact h.lo j es e
    | dead => exact h
    | lv ds => exact h
    | fz ds => exact h
    | dv ds => exact h
    | tr ds => exact h
theorem unl1_len (l k : Lk) : (a.unl1 l).lkOk k = a.lkOk k := by
  cases l <;> unfold AE.unl1 <;> simp only <;> split <;> cases k <;> simp [AE.lkOk]
theorem unl_abs : ∀ {ls : List Lk} {s : S} {a : AE}, Abs s a → (ls.all a.lkOk) = true → Abs (s.unl (ls.map (Lk.at s.np))) (a.unl ls)
  | [], _, _, h, _ => h
  | l :: ls, s, a, h, hl => by
    have ⟨h1, h2⟩ : a.lkOk l = true ∧ ls.all a.lkOk = true := by simpa using hl
    obtain ⟨q1, q2, q3⟩ := unl1_abs h h1
    have := unl_abs (ls := ls) q1 (by rw [List.all_eq_true] at h2 ⊢; intro k hk; rw [unl1_len]; exact h2 k hk)
    rw [q2] at this
    exact this
/-! ### for -/
def loopM {σ τ : Type} (step : σ → τ → Option σ) : List τ → σ → Option σ
  | [], x => some x
  | y :: ys, x => (step x y).bind (loopM step ys)
def loopF {σ τ ρ : Type} (step : σ → τ → Option (Fw σ ρ)) : List τ → σ → Option (Lr σ ρ)
  | [], x => some (.go x)
  | y :: ys, x => (step x y).bind fun
    | .nx x' => loopF step ys x'
    | .bk x' => some (.go x')
    | .rt r => some (.rt r)
/-- the end of a turn -/
theorem turn_end {dr : List Nat} (hd : a.frees dr = true) (h : Abs s a) : Abs (s.clean dr) a ∧ (s.clean dr).np = s.np := ⟨clean_abs h hd, by rw [(clean_abs h hd).np, h.np]⟩
theorem loop_abs {σ τ : Type} {e : τ → D} {E : σ → AE} {g : Tg} {dr : List Nat} {body : SS} {step : σ → τ → Option σ} {n : Nat} {cs : List Nat} (hd : ∀ x, (E x).frees dr = true) (hls : ∀ x, ls.all (E x).lkOk = true) (hn : ∀ x, (E x).io.length = n) (hcs : ls.map (Lk.at n) = cs)
    (hb : ∀ x y, ∃ b, AE.tgt g (e y) (E x) = some b ∧ BJ body b (step x y) (fun x' => .go (E x'))) : ∀ (ys : List τ) (x x' : σ) (s : S), Abs s (E x) → loopM step ys x = some x' → ∃ s', loopS g dr body cs (ys.map e) s = .ok .nx s' ∧ Abs s' ((E x').unl ls)
  | [], x, x', s, h, q => by
    cases q
    subst hcs
    have := unl_abs h (hls x)
    rw [h.np, hn x] at this
    exact ⟨_, rfl, this.tr⟩
  | y :: ys, x, x', s, h, q => by
    unfold loopM at q
    obtain ⟨x1, q1, q2⟩ := bE q
    obtain ⟨b, z1, z2⟩ := hb x y
    obtain ⟨s1, w1, w2, w3, w4, w5⟩ := tgt_abs h z1
    obtain ⟨s2, hfl, p2⟩ := z2 x1 q1 s1 w2
    obtain ⟨c1, c2⟩ := turn_end (hd x1) p2
    obtain ⟨s3, e3, p3⟩ := loop_abs hd hls hn hcs hb ys x1 x' _ c1 q2
    refine ⟨s3, ?_, p3⟩
    rw [List.map_cons]
    unfold loopS
    simp only [w1]
    rcases hfl with e2 | e2 <;> (rw [e2]; exact e3)
theorem loopF_abs {σ τ ρ : Type} {e : τ → D} {E : σ → AE} {V : ρ → Rv} {B : ρ → List Cell} {g : Tg} {dr : List Nat} {body : SS} {step : σ → τ → Option (Fw σ ρ)} {n : Nat} {cs : List Nat} (hd : ∀ x, (E x).frees dr = true) (hls : ∀ x, ls.all (E x).lkOk = true) (hn : ∀ x, (E x).io.length = n) (hcs : ls.map (Lk.at n) = cs)
    (hb : ∀ x y, ∃ b, AE.tgt g (e y) (E x) = some b ∧ BJ body b (step x y) (fun w => match w with | .nx x' => .go (E x') | .bk x' => .bk (E x') | .rt r => .rt (V r) (B r))) :
    ∀ (ys : List τ) (x : σ) (w : Lr σ ρ) (s : S), Abs s (E x) → loopF step ys x = some w → ∃ s', Ends (loopS g dr body cs (ys.map e) s) s' (match w with | .go x' => .nx ((E x').unl ls) | .rt r => .rt (V r) (B r))
  | [], x, w, s, h, q => by
    cases q
    subst hcs
    have := unl_abs h (hls x)
    rw [h.np, hn x] at this
    exact ⟨_, rfl, this.tr⟩
  | y :: ys, x, w, s, h, q => by
    unfold loopF at q
    obtain ⟨x1, q1, q2⟩ := bE q
    obtain ⟨b, z1, z2⟩ := hb x y
    obtain ⟨s1, w1, w2, w3, w4, w5⟩ := tgt_abs h z1
    obtain ⟨s2, p2⟩ := z2 x1 q1 s1 w2
    rw [List.map_cons]
    unfold loopS
    simp only [w1]
    cases x1 with
    | nx x1 =>
      obtain ⟨hfl, p2⟩ := p2
      obtain ⟨c1, c2⟩ := turn_end (hd x1) p2
      obtain ⟨s3, p3⟩ := loopF_abs hd hls hn hcs hb ys x1 w _ c1 q2
      exact ⟨s3, by rcases hfl with e2 | e2 <;> (rw [e2]; exact p3)⟩
    | bk x1 =>
      obtain ⟨e2, p2⟩ := p2
      obtain ⟨c1, c2⟩ := turn_end (hd x1) p2
      cases q2
      have := unl_abs c1 (hls x1)
      rw [c1.np, hn x1, hcs] at this
      rw [e2]
      exact ⟨_, rfl, this.tr⟩
    | rt r =>
      obtain ⟨p2, p3⟩ := p2
      cases q2
      refine ⟨s2, ?_, p3⟩
      rcases id p2.cases with ⟨x, _, e2⟩ | ⟨r', e2, _⟩ <;> (rw [e2] at p2 ⊢; exact p2)
theorem bj_for {σ τ : Type} {e : τ → D} {E : σ → AE} {g : Tg} {dr : List Nat} {body : SS} {step : σ → τ → Option σ} {ys : List τ} {x0 : σ} (hi : JI it a (ys.map e) ls a1) (w : Wk a1 (E x0)) (hd : ∀ x, (E x).frees dr = true) (hls : ∀ x, ls.all (E x).lkOk = true) (hn : ∀ x, (E x).io.length = a.io.length)
    (hb : ∀ x y, ∃ b, AE.tgt g (e y) (E x) = some b ∧ BJ body b (step x y) (fun x' => .go (E x'))) : BJ (forS it g dr body) a (loopM step ys x0) (fun x => .nx ((E x).unl ls)) := fun x' q s h => by
  obtain ⟨s1, e1, q1, k1⟩ := hi s h
  have q2 := clean_abs (q1.wk w) (hd x0)
  obtain ⟨s2, e2, q3⟩ := loop_abs (cs := ls.map (Lk.at s.np)) hd hls hn (by rw [h.np]) hb ys x0 x' _ q2 q
  exact ⟨s2, by unfold forS; rw [e1, Res.bind_ok]; exact e2, q3⟩
theorem bj_forF {σ τ ρ : Type} {e : τ → D} {E : σ → AE} {V : ρ → Rv} {B : ρ → List Cell} {g : Tg} {dr : List Nat} {body : SS} {step : σ → τ → Option (Fw σ ρ)} {ys : List τ} {x0 : σ} (hi : JI it a (ys.map e) ls a1) (w : Wk a1 (E x0)) (hd : ∀ x, (E x).frees dr = true) (hls : ∀ x, ls.all (E x).lkOk = true) (hn : ∀ x, (E x).io.length = a.io.length)
    (hb : ∀ x y, ∃ b, AE.tgt g (e y) (E x) = some b ∧ BJ body b (step x y) (fun w => match w with | .nx x' => .go (E x') | .bk x' => .bk (E x') | .rt r => .rt (V r) (B r))) :
    BJ (forS it g dr body) a (loopF step ys x0) (fun w => match w with | .go x' => .nx ((E x').unl ls) | .rt r => .rt (V r) (B r)) := fun x' q s h => by
  obtain ⟨s1, e1, q1, k1⟩ := hi s h
  have q2 := clean_abs (q1.wk w) (hd x0)
  obtain ⟨s2, q3⟩ := loopF_abs (cs := ls.map (Lk.at s.np)) hd hls hn (by rw [h.np]) hb ys x0 x' _ q2 q
  exact ⟨s2, by unfold forS; rw [e1, Res.bind_ok]; exact q3⟩
end
/-! ### while -/
def whileK {σ ρ : Type} (c : σ → Option Bool) (step : σ → Option (Fw σ ρ)) : Nat → σ → Option (Lr σ ρ)
  | 0, _ => none
  | n + 1, x => (c x).bind fun b => if b = true then (step x).bind fun
    | .nx x' => whileK c step n x'
    | .bk x' => some (.go x')
    | .rt r => some (.rt r) else some (.go x)
open Classical in
noncomputable def whileP {σ ρ : Type} (c : σ → Option Bool) (step : σ → Option (Fw σ ρ)) (x : σ) : Option (Lr σ ρ) := if h : ∃ n w, whileK c step n x = some w then some h.choose_spec.choose else none
end E
/-! X5: comprehensions. -/
namespace E
open PySem PySem.Spec PyProof.Rows L2
def AV.flat : AV → Bool
  | .un => true
  | .da _ => true
  | _ => false
/-- alike but for slots that hold data, or nothing -/
structure Cov (a b : AE) : Prop where
  io : a.io = b.io
  ln : a.sl.length = b.sl.length
  sl : ∀ (i : Nat) (v : AV), a.sl[i]? = some v → b.sl[i]? = some v ∨ (v.flat = true ∧ ∃ u : AV, b.sl[i]? = some u ∧ u.flat = true)
section
variable {s s' s₂ s0 t : S} {a b a' a0 a1 a2 a3 : AE} {r : R} {v v1 v2 v3 : RV} {f g f1 f2 f3 : ES} {vs : List RV} {d d1 d2 d3 : D} {u u1 u2 : TS'} {ds : List D} {ls : List Lk}
theorem Cov.symm (h : Cov a b) : Cov b a := ⟨h.io.symm, h.ln.symm, fun i v e => by
  have hi : i < a.sl.length := by rw [h.ln]; exact (List.getElem?_eq_some_iff.mp e).1
  have ea := List.getElem?_eq_getElem hi
  rcases h.sl i _ ea with q | ⟨q1, u, q2, q3⟩
  · rw [e] at q; cases q; exact .inl ea
  · rw [e] at q2; cases q2; exact .inr ⟨q3, _, ea, q1⟩⟩
theorem Cov.refl : Cov a a := ⟨rfl, rfl, fun _ _ e => .inl e⟩
theorem Cov.trans {c : AE} (h : Cov a b) (k : Cov b c) : Cov a c := ⟨h.io.trans k.io, h.ln.trans k.ln, fun i v e => by
  rcases h.sl i v e with q | ⟨q1, u, q2, q3⟩
  · exact k.sl i v q
  · rcases k.sl i u q2 with z | ⟨z1, w, z2, z3⟩
    · exact .inr ⟨q1, u, z, q3⟩
    · exact .inr ⟨q1, w, z2, z3⟩⟩
/-- slots from one state, cells from another -/
theorem mix (h : Abs t a) (k : Abs s b) (c : Cov a b) (hnp : s.np = t.np) : Abs ⟨t.sl, s.ce, t.np⟩ a where
  np := h.np
  ln := h.ln
  ge := by show t.np + t.sl.length ≤ _; have := k.ge; unfold S.base at this; rw [h.ln, c.ln, ← k.ln, ← hnp]; exact this
  da := h.da
  ow := fun i x e => by
    refine ⟨(h.ow i x e).1, ?_⟩
    rcases c.sl i _ e with q | ⟨q, _⟩
    · rw [← hnp]; exact (k.ow i x q).2
    · cases q
  ar := h.ar
  io := fun i x e => k.io i x (by rw [← c.io]; exact e)
  hm := h.hm
  lk := fun i ds hi e => by
    have hi' : i < s.sl.length := by rw [k.ln, ← c.ln, ← h.ln]; exact hi
    have e' : s.cellAt (s.np + i) = .lk ds := by rw [hnp]; exact e
    rcases k.lk i ds hi' e' with q | q <;> rcases c.symm.sl i _ q with z | ⟨z, _⟩
    · exact .inl z
    · cases z
    · exact .inr z
    · cases z
  lo := fun i ds e => by
    rcases c.sl i _ e with q | ⟨q, _⟩
    · show s.cellAt (t.np + i) = _; rw [← hnp]; exact k.lo i ds q
    · cases q
  ex := h.ex
def AE.flats (a : AE) (is : List Nat) : Bool := is.all fun i => match a.sl[i]? with
  | some v => v.flat
  | none => false
def AE.wipe (a : AE) (vs : List Nat) : AE := ⟨vs.foldr (fun v l => l.set v .un) a.sl, a.io⟩
theorem wipe_nth : ∀ {vs : List Nat} {l : List AV} {i : Nat}, (vs.foldr (fun v l => l.set v AV.un) l)[i]? = if i ∈ vs ∧ i < l.length then some .un else l[i]?
  | [], l, i => by simp
  | v :: vs, l, i => by
    have hlen : ∀ vs : List Nat, (vs.foldr (fun v l => l.set v AV.un) l).length = l.length := fun vs => by
      induction vs with
      | nil => rfl
      | cons w ws ih => simpa using ih
    show ((vs.foldr (fun v l => l.set v AV.un) l).set v AV.un)[i]? = _
    by_cases hv : v = i
    · subst hv
      by_cases hl : v < l.length
      · rw [List.getElem?_set_self (by rw [hlen]; exact hl), if_pos ⟨List.mem_cons_self, hl⟩]
      · rw [List.getElem?_eq_none (by rw [List.length_set, hlen]; omega), if_neg (fun z => hl z.2), List.getElem?_eq_none (by omega)]
    · rw [List.getElem?_set_ne hv, wipe_nth]
      have : (i ∈ v :: vs) ↔ i ∈ vs := by simp [Ne.symm hv]
      simp only [this]
theorem wipe_ln {vs : List Nat} {l : List AV} : (vs.foldr (fun v l => l.set v AV.un) l).length = l.length := by
  induction vs with
  | nil => rfl
  | cons w ws ih => simpa using ih
theorem wipe_cov {vs : List Nat} (hw : a.flats vs = true) : Cov a (a.wipe vs) := ⟨rfl, wipe_ln.symm, fun i v e => by
  unfold AE.wipe
  simp only
  rw [wipe_nth]
  have hi : i < a.sl.length := (List.getElem?_eq_some_iff.mp e).1
  by_cases hv : i ∈ vs
  · have := (List.all_eq_true.mp hw) i hv
    rw [e] at this
    exact .inr ⟨this, .un, by rw [if_pos ⟨hv, hi⟩], rfl⟩
  · rw [if_neg (fun z => hv z.1)]; exact .inl e⟩
theorem wipeS_nth : ∀ {vs : List Nat} {l : List (Option R)} {i : Nat}, (wipeS vs l)[i]? = if i ∈ vs ∧ i < l.length then some none else l[i]?
  | [], l, i => by simp [wipeS]
  | v :: vs, l, i => by
    show ((wipeS vs l).set v none)[i]? = _
    by_cases hv : v = i
    · subst hv
      by_cases hl : v < l.length
      · rw [List.getElem?_set_self (by rw [wipeS_len]; exact hl), if_pos ⟨List.mem_cons_self, hl⟩]
      · rw [List.getElem?_eq_none (by rw [List.length_set, wipeS_len]; omega), if_neg (fun z => hl z.2), List.getElem?_eq_none (by omega)]
    · rw [List.getElem?_set_ne hv, wipeS_nth]
      have : (i ∈ v :: vs) ↔ i ∈ vs := by simp [Ne.symm hv]
      simp only [this]
theorem wipe_abs {vs : List Nat} (h : Abs s a) (hw : a.flats vs = true) : Abs { s with sl := wipeS vs s.sl } (a.wipe vs) := by
  have c := wipe_cov hw
  have gs : ∀ {i : Nat} {v : AV}, (a.wipe vs).sl[i]? = some v → v ≠ .un → i ∉ vs ∧ a.sl[i]? = some v := fun {i v} e hne => by
    unfold AE.wipe at e
    simp only at e
    rw [wipe_nth] at e
    split at e
    · cases e; exact absurd rfl hne
    · rename_i hn
      have hi : i < a.sl.length := (List.getElem?_eq_some_iff.mp e).1
      exact ⟨fun z => hn ⟨z, hi⟩, e⟩
  have gw : ∀ {i : Nat}, i ∉ vs → (wipeS vs s.sl)[i]? = s.sl[i]? := fun {i} hi => by
    rw [wipeS_nth, if_neg (fun z => hi z.1)]
  refine ⟨h.np, ?_, ?_, fun i d e => ?_, fun i c e => ?_, fun i e => ?_, h.io, fun i c e => h.hm i c (wipeS_get e).2, fun i ds hi e => ?_, fun i ds e => ?_, fun i x e => by
    obtain ⟨h1, h2⟩ := gs e (by simp)
    show (wipeS vs s.sl)[i]? = _
    rw [gw h1]; exact h.ex i x h2⟩
  · show (wipeS vs s.sl).length = (a.wipe vs).sl.length
    rw [wipeS_len, h.ln]; exact wipe_ln.symm
  · show s.np + (wipeS vs s.sl).length ≤ _
    rw [wipeS_len]; exact h.ge
  · obtain ⟨h1, h2⟩ := gs e (by simp)
    show (wipeS vs s.sl)[i]? = _
    rw [gw h1]; exact h.da i d h2
  · obtain ⟨h1, h2⟩ := gs e (by simp)
    exact ⟨by show (wipeS vs s.sl)[i]? = _; rw [gw h1]; exact (h.ow i c h2).1, (h.ow i c h2).2⟩
  · obtain ⟨h1, h2⟩ := gs e (by simp)
    exact ⟨by show (wipeS vs s.sl)[i]? = _; rw [gw h1]; exact (h.ar i h2).1, (h.ar i h2).2⟩
  · have hi' : i < s.sl.length := by rw [← wipeS_len (vs := vs)]; exact hi
    rcases h.lk i ds hi' e with q | q <;> rcases c.sl i _ q with z | ⟨z, _⟩
    · exact .inl z
    · cases z
    · exact .inr z
    · cases z
  · obtain ⟨h1, h2⟩ := gs e (by simp)
    exact h.lo i ds h2
/-! ### targets that hold nothing else -/
theorem asg_cov {i : Nat} {d : D} (e : a.asg i (.da d) = some a') (hf : a.flats [i] = true) : Cov a a' ∧ a'.sl.length = a.sl.length ∧ ∀ is, a.flats is = true → a'.flats is = true := by
  unfold AE.asg at e
  split at e
  · cases e
    rename_i hi
    have hff : ∃ v, a.sl[i]? = some v ∧ v.flat = true := by
      have := (List.all_eq_true.mp hf) i (by simp)
      split at this
      · rename_i v e; exact ⟨v, e, this⟩
      · cases this
    have get : ∀ (j : Nat), (a.sl.set i (AV.da d))[j]? = if j = i then some (.da d) else a.sl[j]? := fun j => by
      by_cases hj : i = j
      · subst hj; rw [List.getElem?_set_self hi.1, if_pos rfl]
      · rw [List.getElem?_set_ne hj, if_neg (Ne.symm hj)]
    refine ⟨⟨rfl, by simp, fun j v ej => ?_⟩, by simp, fun is his => ?_⟩
    · show (a.sl.set i _)[j]? = _ ∨ _
      simp only [get]
      by_cases hj : j = i
      · subst hj
        obtain ⟨w, hw, hfl⟩ := hff
        rw [hw] at ej
        cases ej
        exact .inr ⟨hfl, .da d, by rw [if_pos rfl], rfl⟩
      · rw [if_neg hj]; exact .inl ej
    · unfold AE.flats
      rw [List.all_eq_true]
      intro j hj
      simp only [get]
      by_cases hji : j = i
      · rw [if_pos hji]; rfl
      · rw [if_neg hji]; exact (List.all_eq_true.mp his) j hj
  · cases e
mutual
theorem tgt_cov : ∀ {g : Tg} {d : D} {a a' : AE}, AE.tgt g d a = some a' → a.flats g.slots = true → Cov a a' ∧ a'.sl.length = a.sl.length ∧ ∀ is, a.flats is = true → a'.flats is = true
  | .nm i, d, a, a', e, h => by unfold AE.tgt at e; exact asg_cov e h
  | .tp ts, .tuple ds, a, a', e, h => by unfold AE.tgt at e; unfold Tg.slots at h; exact tgts_cov e h
  | .tp ts, .none, _, _, e, _ => by unfold AE.tgt at e; cases e
  | .tp ts, .bool _, _, _, e, _ => by unfold AE.tgt at e; cases e
  | .tp ts, .int _, _, _, e, _ => by unfold AE.tgt at e; cases e
  | .tp ts, .str _, _, _, e, _ => by unfold AE.tgt at e; cases e
  | .tp ts, .list _, _, _, e, _ => by unfold AE.tgt at e; cases e
  | .tp ts, .dict _, _, _, e, _ => by unfold AE.tgt at e; cases e
theorem tgts_cov : ∀ {ts : List Tg} {ds : List D} {a a' : AE}, AE.tgts ts ds a = some a' → a.flats (Tg.slotss ts) = true → Cov a a' ∧ a'.sl.length = a.sl.length ∧ ∀ is, a.flats is = true → a'.flats is = true
  | [], [], a, a', e, _ => by unfold AE.tgts at e; cases e; exact ⟨.refl, rfl, fun _ h => h⟩
  | t :: ts, d :: ds, a, a', e, h => by
    unfold AE.tgts at e
    unfold Tg.slotss at h
    have ⟨h1, h2⟩ : a.flats t.slots = true ∧ a.flats (Tg.slotss ts) = true := by simpa [AE.flats, List.all_append] using h
    split at e
    · rename_i a1 e1
      obtain ⟨c1, l1, k1⟩ := tgt_cov e1 h1
      obtain ⟨c2, l2, k2⟩ := tgts_cov e (k1 _ h2)
      exact ⟨c1.trans c2, l2.trans l1, fun is his => k2 is (k1 is his)⟩
    · cases e
  | [], _ :: _, _, _, e, _ => by unfold AE.tgts at e; cases e
  | _ :: _, [], _, _, e, _ => by unfold AE.tgts at e; cases e
end
/-! ### what a body adds -/
def BD (bd : S → Option S) (n : Nat) (b : AE) (outs : List D) : Prop := ∀ s acc, Abs s b → s.base ≤ n → n < s.ce.length → s.cellAt n = .lv acc → acc.length + outs.length ≤ sizeLine →
  ∃ s', bd s = some s' ∧ s'.np = s.np ∧ s.ce.length ≤ s'.ce.length ∧ Abs ⟨s.sl, s'.ce, s.np⟩ b ∧ s'.cellAt n = .lv (acc ++ outs) ∧ ∀ c, s.base ≤ c → c < s.ce.length → c ≠ n → s'.cellAt c = s.cellAt c
theorem cellAt_take {sl : List (Option R)} {m c : Nat} (hc : c < m) : (⟨sl, s.ce.take m, s.np⟩ : S).cellAt c = s.cellAt c := by
  unfold S.cellAt
  rw [List.getElem?_take, if_pos hc]
theorem back_abs {m : Nat} (h : Abs s a) (hm : s.base ≤ m) (hl : m ≤ s.ce.length) : Abs ⟨s.sl, s.ce.take m, s.np⟩ a where
  np := h.np
  ln := h.ln
  ge := by show s.base ≤ (s.ce.take m).length; rw [List.length_take]; omega
  da := h.da
  ow := fun i c e => ⟨(h.ow i c e).1, by
    have hi : i < s.sl.length := (List.getElem?_eq_some_iff.mp (h.ow i c e).1).1
    exact (cellAt_take (show s.np + i < m by unfold S.base at hm; omega)).trans (h.ow i c e).2⟩
  ar := h.ar
  io := fun i c e => by
    have hi : i < a.io.length := (List.getElem?_eq_some_iff.mp e).1
    exact (cellAt_take (by have := h.np; unfold S.base at hm; omega)).trans (h.io i c e)
  hm := h.hm
  lk := fun i ds hi e => h.lk i ds hi (by
    have hi : i < s.sl.length := hi
    rw [← e]; exact (cellAt_take (by unfold S.base at hm; show s.np + i < m; omega)).symm)
  lo := fun i ds e => by
    have hi : i < a.sl.length := (List.getElem?_eq_some_iff.mp e).1
    exact (cellAt_take (show s.np + i < m by have := h.ln; unfold S.base at hm; omega)).trans (h.lo i ds e)
  ex := h.ex
theorem compL_abs {τ : Type} {aw : AE} {e : τ → D} {out : τ → List D} {g : Tg} {ft : TS'} {bd : S → Option S} {sl : List (Option R)} {m n : Nat} (hnm : n < m) (hflat : aw.flats g.slots = true) :
    ∀ (ys : List τ), (∀ y ∈ ys, ∃ b, AE.tgt g (e y) aw = some b ∧ ((JT ft b false b ∧ out y = []) ∨ (JT ft b true b ∧ BD bd n b (out y)))) →
      ∀ (t : S) (acc : List D), Abs t aw → t.sl = sl → t.base ≤ n → t.ce.length = m → t.cellAt n = .lv acc → acc.length + (ys.flatMap out).length ≤ sizeLine →
      ∃ s2, compL g ft bd sl m (ys.map e) t = some s2 ∧ Abs s2 aw ∧ s2.sl = sl ∧ s2.ce.length = m ∧ s2.np = t.np ∧ s2.cellAt n = .lv (acc ++ ys.flatMap out) ∧ ∀ c, t.base ≤ c → c < m → c ≠ n → s2.cellAt c = t.cellAt c
  | [], _, t, acc, h, hsl, _, hl, hc, _ => ⟨t, rfl, h, hsl, hl, rfl, by simpa using hc, fun _ _ _ _ => rfl⟩
  | y :: ys, hy, t, acc, h, hsl, hb, hl, hc, hz => by
    obtain ⟨b, e1, hb2⟩ := hy y List.mem_cons_self
    obtain ⟨s1, w1, w2, w3, w4, w5⟩ := tgt_abs h e1
    obtain ⟨cv, _, _⟩ := tgt_cov e1 hflat
    have base1 : s1.base = t.base := by unfold S.base; rw [w4, w5]
    rw [List.flatMap_cons, List.length_append] at hz
    -- from a state behind the body, with b's cells
    have go : ∀ s3 : S, s3.np = t.np → m ≤ s3.ce.length → Abs ⟨s1.sl, s3.ce, s3.np⟩ b → s3.cellAt n = .lv (acc ++ out y) → (∀ c, t.base ≤ c → c < m → c ≠ n → s3.cellAt c = t.cellAt c) →
        ∃ s2, compL g ft bd sl m (ys.map e) (s3.back sl m) = some s2 ∧ Abs s2 aw ∧ s2.sl = sl ∧ s2.ce.length = m ∧ s2.np = t.np ∧ s2.cellAt n = .lv (acc ++ (y :: ys).flatMap out) ∧ ∀ c, t.base ≤ c → c < m → c ≠ n → s2.cellAt c = t.cellAt c := fun s3 np3 le3 ab3 c3 k3 => by
      have a3 := mix h ab3 cv np3
      have a4 : Abs (s3.back sl m) aw := by
        have := back_abs (m := m) a3 (by show t.base ≤ m; omega) le3
        unfold S.back
        rw [← hsl]
        rw [np3]
        exact this
      have ca : ∀ c, c < m → (s3.back sl m).cellAt c = s3.cellAt c := fun c hc => cellAt_take hc
      have bb : (s3.back sl m).base = t.base := by
        show s3.np + sl.length = t.np + t.sl.length
        rw [np3, hsl]
      obtain ⟨s2, q1, q2, q3, q4, q5, q6, q7⟩ := compL_abs hnm hflat ys (fun y' hy' => hy y' (List.mem_cons_of_mem _ hy')) (s3.back sl m) (acc ++ out y) a4 rfl (by rw [bb]; exact hb) (by show (s3.ce.take m).length = m; rw [List.length_take]; omega) (by rw [ca n hnm]; exact c3) (by rw [List.length_append]; omega)
      refine ⟨s2, q1, q2, q3, q4, q5.trans np3, by rw [q6, List.flatMap_cons, List.append_assoc], fun c h1 h2 h3 => ?_⟩
      rw [q7 c (by rw [bb]; exact h1) h2 h3, ca c h2]
      exact k3 c h1 h2 h3
    rw [List.map_cons]
    unfold compL
    simp only [w1]
    have ce1 : ∀ c, s1.cellAt c = t.cellAt c := fun c => by unfold S.cellAt; rw [w3]
    rcases hb2 with ⟨hf, ho⟩ | ⟨hf, hbd⟩
    · obtain ⟨s2, f1, f2, f3⟩ := hf s1 w2
      simp only [f1, Bool.false_eq_true, if_false]
      refine go s2 (f3.np.trans w4) (by rw [← hl, ← w3]; exact f3.le) (by rw [← f3.sl]; exact f2) ?_ fun c h1 h2 _ => ?_
      · rw [f3.tp n (by rw [base1]; exact hb) (by rw [w3, hl]; exact hnm), ce1, hc, ho, List.append_nil]
      · rw [f3.tp c (by rw [base1]; exact h1) (by rw [w3, hl]; exact h2), ce1]
    · obtain ⟨s2, f1, f2, f3⟩ := hf s1 w2
      simp only [f1, if_true]
      have base2 : s2.base = t.base := f3.base.trans base1
      obtain ⟨s3, g1, g2, g3, g4, g5, g6⟩ := hbd s2 acc f2 (by rw [base2]; exact hb) (Nat.lt_of_lt_of_le (by rw [w3, hl]; exact hnm) f3.le) (by rw [f3.tp n (by rw [base1]; exact hb) (by rw [w3, hl]; exact hnm), ce1]; exact hc) (by omega)
      simp only [g1]
      refine go s3 (g2.trans (f3.np.trans w4)) (by rw [← hl, ← w3]; exact Nat.le_trans f3.le g3) (by rw [← f3.sl, g2]; exact g4) g5 fun c h1 h2 h3 => ?_
      rw [g6 c (by rw [base2]; exact h1) (Nat.lt_of_lt_of_le (by rw [w3, hl]; exact h2) f3.le) h3, f3.tp c (by rw [base1]; exact h1) (by rw [w3, hl]; exact h2), ce1]
theorem bd_addE {fe : ES} {n : Nat} (h : J fe a v a) (hf : a.frz v = some (d, a)) : BD (addE fe n) n a [d] := fun s acc hs hb hn hc hz => by
  obtain ⟨r, s1, e1, p1, n1, q1, k1⟩ := h s hs
  obtain ⟨s2, y1, y2, y3, y4, y5, y6⟩ := frz_abs q1 p1 hf
  have hne : r ≠ .own n := fun z => by rcases n1 n z with q | q <;> omega
  have c2 : s2.cellAt n = .lv acc := by rw [y6 n (by rw [k1.base]; exact hb) hne, k1.tp n hb hn]; exact hc
  have b2 : s2.base = s.base := by unfold S.base; rw [y3, y4, k1.np, k1.sl]
  have l2 : s.ce.length ≤ s2.ce.length := by rw [y5]; exact k1.le
  refine ⟨s2.put n (.lv (acc ++ [d])), ?_, y3.trans k1.np, by rw [put_len]; exact l2, ?_, by rw [cellAt_put, if_pos ⟨rfl, by omega⟩], fun c h1 h2 h3 => ?_⟩
  · unfold addE
    simp only [e1]
    unfold addC
    simp only [y1, c2]
    exact if_pos (show acc.length < sizeLine by simp only [List.length_cons, List.length_nil] at hz; omega)
  · have := y2.put_te (c := n) (x := .lv (acc ++ [d])) (by rw [b2]; exact hb)
    unfold S.put at this ⊢
    rw [← k1.sl, ← y4, ← k1.np, ← y3]
    exact this
  · rw [cellAt_put, if_neg (by rintro ⟨z, _⟩; exact h3 z), y6 c (by rw [k1.base]; exact h1) (fun z => by rcases n1 c z with q | q <;> omega), k1.tp c h1 h2]
/-! ### the source's items, one by one -/
def compB {τ β : Type} (step : τ → Option (List β)) : List τ → Option (List β)
  | [] => some []
  | y :: ys => (step y).bind fun o => (compB step ys).map (o ++ ·)
theorem compB_mem {τ β : Type} {step : τ → Option (List β)} : ∀ {ys : List τ} {zs : List β}, compB step ys = some zs → (∀ y ∈ ys, ∃ o, step y = some o) ∧ zs = ys.flatMap fun y => (step y).getD []
  | [], zs, h => by cases h; exact ⟨fun _ q => by simp at q, rfl⟩
  | y :: ys, zs, h => by
    unfold compB at h
    obtain ⟨o, h1, h2⟩ := bE h
    cases q : compB step ys with
    | none => rw [q] at h2; cases h2
    | some z =>
      rw [q] at h2
      cases h2
      obtain ⟨k1, k2⟩ := compB_mem q
      refine ⟨fun y' hy => ?_, by rw [List.flatMap_cons, h1, ← k2]; rfl⟩
      rcases List.mem_cons.mp hy with rfl | hy
      · exact ⟨o, h1⟩
      · exact k1 y' hy
/-- a turn of the source -/
def CT {β : Type} (ft : TS') (bd : S → Option S) (n : Nat) (b : AE) (e' : β → D) (o : List β) : Prop := (JT ft b false b ∧ o = []) ∨ (JT ft b true b ∧ BD bd n b (o.map e'))
theorem j_compG {τ β : Type} {e : τ → D} {e' : β → D} {it : IS} {g : Tg} {vs : List Nat} {ft : TS'} {bd : Nat → S → Option S} {step : τ → Option (List β)} {ys : List τ} {zs : List β} (hi : JI it a (ys.map e) ls a1) (hw : a1.flats vs = true) (hg : (a1.wipe vs).flats g.slots = true) (hlk : ls.all a1.lkOk = true)
    (hz : compB step ys = some zs) (hl : zs.length ≤ sizeLine) (hB : ∀ n y o, step y = some o → ∃ b, AE.tgt g (e y) (a1.wipe vs) = some b ∧ CT ft (bd n) n b e' o) : J (compG it g vs ft bd) a (.te (zs.map e')) (a1.unl ls) := fun s hs => by
  obtain ⟨s1, e1, q1, k1⟩ := hi s hs
  obtain ⟨z1, z2⟩ := compB_mem hz
  have hp : Abs (s1.push (.lv [])) a1 := q1.push (fun _ => .inr trivial)
  have hwp := wipe_abs hp hw
  have hlen : ∀ c, c = s1.ce.length → (s1.push (.lv [])).cellAt c = .lv [] := fun c hc => by rw [cellAt_push, if_pos hc]
  have eo : ys.flatMap (fun y => ((step y).getD []).map e') = zs.map e' := by
    rw [z2, List.map_flatMap]
  obtain ⟨s2, c1, c2, c3, c4, c5, c6, c7⟩ := compL_abs (aw := a1.wipe vs) (e := e) (out := fun y => ((step y).getD []).map e') (g := g) (ft := ft) (bd := bd s1.ce.length) (sl := wipeS vs s1.sl) (m := s1.ce.length + 1) (n := s1.ce.length) (Nat.lt_succ_self _) hg ys (fun y hy => by
    obtain ⟨o, ho⟩ := z1 y hy
    obtain ⟨b, b1, b2⟩ := hB s1.ce.length y o ho
    refine ⟨b, b1, ?_⟩
    rw [ho]
    rcases b2 with ⟨x1, x2⟩ | x
    · exact .inl ⟨x1, by rw [x2]; rfl⟩
    · exact .inr x) { s1.push (.lv []) with sl := wipeS vs s1.sl } [] hwp rfl (by show s1.np + (wipeS vs s1.sl).length ≤ _; rw [wipeS_len]; exact q1.ge) push_len (by have := hlen _ rfl; exact this) (by rw [eo]; simpa using hl)
  have cv := wipe_cov hw
  have ab : Abs ⟨s1.sl, s2.ce, s1.np⟩ a1 := mix q1 c2 cv c5
  have sb : (⟨s1.sl, s2.ce, s1.np⟩ : S).base = s1.base := rfl
  have ct : s2.ce.take (s1.ce.length + 1) = s2.ce := List.take_of_length_le (by omega)
  have bk : s2.back s1.sl (s1.ce.length + 1) = ⟨s1.sl, s2.ce, s1.np⟩ := by
    unfold S.back
    rw [ct]
    show (⟨s1.sl, s2.ce, s2.np⟩ : S) = _
    rw [c5]
    rfl
  have un := unl_abs (ls := ls) ab hlk
  -- the temporaries stay when homes are unlocked
  have keep : ∀ (ls : List Lk) (t : S) (c : Nat), (ls.all fun l => decide (l.at t.np < t.base)) = true → t.base ≤ c → (t.unl (ls.map (Lk.at t.np))).cellAt c = t.cellAt c ∧ (t.unl (ls.map (Lk.at t.np))).ce.length = t.ce.length ∧ (t.unl (ls.map (Lk.at t.np))).np = t.np ∧ (t.unl (ls.map (Lk.at t.np))).sl = t.sl := by
    intro ls
    induction ls with
    | nil => intro t c _ _; exact ⟨rfl, rfl, rfl, rfl⟩
    | cons l ls ih =>
      intro t c hall hb
      have ⟨h1, h2⟩ : l.at t.np < t.base ∧ (ls.all fun l => decide (l.at t.np < t.base)) = true := by simpa using hall
      have hu : t.unl ((l :: ls).map (Lk.at t.np)) = S.unl (ls.map (Lk.at t.np)) (match t.cellAt (l.at t.np) with | .lk ds => t.put (l.at t.np) (.lv ds) | _ => t) := rfl
      rw [hu]
      cases q : t.cellAt (l.at t.np) with
      | lk ds =>
        simp only
        obtain ⟨i1, i2, i3, i4⟩ := ih (t.put (l.at t.np) (.lv ds)) c h2 hb
        refine ⟨i1.trans ?_, i2.trans put_len, i3, i4⟩
        rw [cellAt_put, if_neg]
        rintro ⟨z, _⟩; omega
      | dead => exact ih t c h2 hb
      | lv ds => exact ih t c h2 hb
      | fz ds => exact ih t c h2 hb
      | dv ds => exact ih t c h2 hb
      | tr ds => exact ih t c h2 hb
  have lkb : (ls.all fun l => decide (l.at s1.np < s1.base)) = true := by
    rw [List.all_eq_true] at hlk ⊢
    intro l hl
    have := hlk l hl
    have h1 := q1.np
    have h2 := q1.ln
    cases l with
    | loc i => have : i < a1.sl.length := of_decide_eq_true this; exact decide_eq_true (show s1.np + i < s1.np + s1.sl.length by omega)
    | arg i => have : i < a1.io.length := of_decide_eq_true this; exact decide_eq_true (show i < s1.np + s1.sl.length by omega)
  have kp := fun c hc => keep ls ⟨s1.sl, s2.ce, s1.np⟩ c lkb hc
  have ge1 := q1.ge
  refine ⟨.own s1.ce.length, (s2.back s1.sl (s1.ce.length + 1)).unl (ls.map (Lk.at s.np)), ?_, ?_, fun c e => (by cases e; exact .inr k1.le), ?_, ?_⟩
  · unfold compG
    rw [e1, Res.bind_ok]
    simp only [c1]
  · rw [bk, ← k1.np]
    obtain ⟨x1, x2, x3, x4⟩ := kp s1.ce.length ge1
    refine ⟨_, rfl, ?_, ?_, ?_⟩
    · unfold S.base; rw [x3, x4]; exact ge1
    · rw [x2]; show s1.ce.length < s2.ce.length; omega
    · rw [x1]
      show s2.cellAt s1.ce.length = _
      rw [c6, eo, List.nil_append]
  · rw [bk, ← k1.np]; exact un
  · rw [bk, ← k1.np]
    refine k1.trans ⟨(kp s1.ce.length ge1).2.2.1, (kp s1.ce.length ge1).2.2.2, ?_, fun c h1 h2 => ?_⟩
    · rw [(kp s1.ce.length ge1).2.1]; show s1.ce.length ≤ s2.ce.length; omega
    · rw [(kp c h1).1]
      show s2.cellAt c = _
      rw [c7 c (by show s1.np + (wipeS vs s1.sl).length ≤ c; rw [wipeS_len]; exact h1) (by omega) (by omega)]
      show (s1.push (.lv [])).cellAt c = _
      rw [cellAt_push, if_neg (by omega)]
theorem j_comp {τ β : Type} {e : τ → D} {e' : β → D} {it : IS} {g : Tg} {vs : List Nat} {ft : TS'} {fe : ES} {step : τ → Option (List β)} {ys : List τ} {zs : List β} (hi : JI it a (ys.map e) ls a1) (hw : a1.flats vs = true) (hg : (a1.wipe vs).flats g.slots = true) (hlk : ls.all a1.lkOk = true)
    (hz : compB step ys = some zs) (hl : zs.length ≤ sizeLine) (hB : ∀ n y o, step y = some o → ∃ b, AE.tgt g (e y) (a1.wipe vs) = some b ∧ CT ft (addE fe n) n b e' o) : J (compS it g vs ft fe) a (.te (zs.map e')) (a1.unl ls) := j_compG hi hw hg hlk hz hl hB
theorem ct_one {β : Type} {ft : TS'} {fe : ES} {n : Nat} {e' : β → D} {z : β} (ht : JT ft a true a) (h : J fe a v a) (hf : a.frz v = some (e' z, a)) : CT ft (addE fe n) n a e' [z] := .inr ⟨ht, bd_addE h hf⟩
theorem jt_yes : JT yesT a true a := fun s h => ⟨s, rfl, h, .refl⟩
end
end E
/-! X6: calls; a def as a whole. -/
namespace E
open PySem PySem.Spec PyProof.Rows L2
/-- what goes over -/
inductive PA where
  | sh (d : D)
  | io (i : Nat) (c : Cell)
  | le (o : Option Nat) (ds : List D)
  | ex (x : Ex)
def PA.r : PA → Nat → R
  | .sh d, _ => .sh d
  | .io _ _, i => .own i
  | .le _ ds, _ => .sh (.list ds)
  | .ex x, _ => .ex x
def PA.cell : PA → Cell
  | .io _ x => x
  | _ => .dead
def PA.ioc : PA → Option Nat
  | .io i _ => some i
  | _ => none
def PA.lec : PA → Option Nat
  | .le (some i) _ => some i
  | _ => none
def PA.isLe : PA → Bool
  | .le _ _ => true
  | _ => false
def AE.pass1 (a : AE) (b : Bool) : RV → Option PA
  | .da d => some (.sh d)
  | .te ds => if b = true then none else some (.le none ds)
  | .va i => match a.sl[i]? with
    | some (.da d) => some (.sh d)
    | _ => match a.cell i with
      | some (.fz ds) => some (.sh (.list ds))
      | some (.lv ds) => some (if b = true then .io i (.lv ds) else .le (some i) ds)
      | some (.lk ds) => some (if b = true then .io i (.lk ds) else .le (some i) ds)
      | some (.dv ds) => some (.io i (.dv ds))
      | _ => none
  | .xc x => some (.ex x)
  | .td _ => none
  | .tz _ => none
def AE.passL (a : AE) : List Bool → List RV → Option (List PA)
  | [], [] => some []
  | b :: bs, v :: vs => match a.pass1 b v with
    | some p => (a.passL bs vs).map (p :: ·)
    | none => none
  | _, _ => none
def psG : Nat → List PA → List R
  | _, [] => []
  | k, p :: L => p.r k :: psG (k + 1) L
def psA (L : List PA) : List R := psG 0 L
def ioA (L : List PA) : List Cell := L.map PA.cell
def apartA (L : List PA) : Bool := decide (L.filterMap PA.ioc).Nodup && (L.filterMap PA.lec).all fun c => decide (c ∉ L.filterMap PA.ioc)
def lentA (L : List PA) : Bool := L.any PA.isLe
def fineA (lent : Bool) : List PA → List Cell → Bool
  | .io _ _ :: L, y :: io => (match y with
    | .dead => false
    | .tr _ => false
    | y => !lent || atomDs y.list) && fineA lent L io
  | _ :: L, _ :: io => fineA lent L io
  | _, _ => true
def AE.wb (a : AE) : List PA → List Cell → AE
  | .io i x :: L, y :: io => (a.setC i (norm x y)).wb L io
  | _ :: L, _ :: io => a.wb L io
  | _, _ => a
def okV (lent : Bool) : Rv → Bool
  | .sh d => !lent || atomD d
  | .arg _ => true
  | .new ds => !lent || atomDs ds
  | .nwd ds => !lent || atomDs (ds.map (·.2))
  | .nwt _ => true
  | .exn _ => false
def retV (L : List PA) : Rv → Option RV
  | .sh d => some (.da d)
  | .new ds => some (.te ds)
  | .nwd ds => some (.td ds)
  | .nwt d => some (.tz d)
  | .arg k => match L[k]? with
    | some (.io i _) => some (.va i)
    | _ => none
  | .exn _ => none
/-- the two tell the same -/
def PRel (s : S) : PA → Pa → Prop
  | .sh d, .sh e => d = e
  | .io i c, .io m x => c = x ∧ s.sl[i]? = some (some (.own m)) ∧ m < s.base
  | .le o ds, .lent c es => ds = es ∧ match o with
    | none => s.base ≤ c
    | some i => s.sl[i]? = some (some (.own c)) ∧ c < s.base
  | .ex x, .ex y => x = y
  | _, _ => False
inductive PRels (s : S) : List PA → List Pa → Prop
  | nil : PRels s [] []
  | cons {p : PA} {q : Pa} {L : List PA} {L' : List Pa} : PRel s p q → PRels s L L' → PRels s (p :: L) (q :: L')
inductive RR2 (s : S) : List R → List RV → Prop
  | nil : RR2 s [] []
  | cons {r : R} {v : RV} {rs : List R} {vs : List RV} : RRep s r v → RR2 s rs vs → RR2 s (r :: rs) (v :: vs)
section
variable {s s' s₂ s0 t : S} {a b a' a0 a1 a2 a3 : AE} {r : R} {v v1 v2 v3 : RV} {f g f1 f2 f3 : ES} {fa fk : AS} {vs ks ws : List RV} {rs qs : List R} {d d1 d2 d3 : D} {ds : List D} {L : List PA} {L' : List Pa}
theorem RReps.two : ∀ {rs : List R} {vs : List RV}, RReps s rs vs → RR2 s rs vs
  | _, _, .nil => .nil
  | _, _, .cons h k _ => .cons h (RReps.two k)
theorem RR2.len : ∀ {rs : List R} {vs : List RV}, RR2 s rs vs → rs.length = vs.length
  | _, _, .nil => rfl
  | _, _, .cons _ k => by simp [RR2.len k]
theorem RR2.get : ∀ {rs : List R} {vs : List RV} {i : Nat} {v : RV}, RR2 s rs vs → vs[i]? = some v → ∃ r, rs[i]? = some r ∧ RRep s r v
  | _, _, _, _, .nil, e => by simp at e
  | _, _, 0, _, .cons h _, e => by cases e; exact ⟨_, rfl, h⟩
  | _, _, i + 1, v, .cons _ k, e => RR2.get (i := i) (v := v) k e
theorem RR2.app : ∀ {rs : List R} {vs : List RV} {qs : List R} {ws : List RV}, RR2 s rs vs → RR2 s qs ws → RR2 s (rs ++ qs) (vs ++ ws)
  | _, _, _, _, .nil, k => k
  | _, _, _, _, .cons h t, k => .cons h (RR2.app t k)
theorem RR2.das : ∀ ds : List D, RR2 s (ds.map R.sh) (ds.map RV.da)
  | [] => .nil
  | _ :: ds => .cons rfl (RR2.das ds)
theorem RR2.pick (h : RR2 s rs vs) : ∀ ix : List Nat, RR2 s (pick ix rs) (pick ix vs)
  | [] => .nil
  | i :: ix => by
    have ih := RR2.pick h ix
    unfold E.pick at ih ⊢
    cases e : vs[i]? with
    | none =>
      have e2 : rs[i]? = none := by rw [List.getElem?_eq_none_iff] at e ⊢; rw [h.len]; exact e
      rw [List.filterMap_cons, List.filterMap_cons, e, e2]
      exact ih
    | some v =>
      obtain ⟨r, e2, h2⟩ := h.get e
      rw [List.filterMap_cons, List.filterMap_cons, e, e2]
      exact .cons h2 ih
theorem pass1_abs (h : Abs s a) {b : Bool} (hr : RRep s r v) {p : PA} (hp : a.pass1 b v = some p) : ∃ q, pass1 s b r = some q ∧ PRel s p q := by
  cases v with
  | td ds => cases hp
  | tz ds => cases hp
  | xc x =>
    cases (show r = .ex x from hr)
    cases hp
    exact ⟨_, rfl, rfl⟩
  | da d =>
    cases (show r = .sh d from hr)
    cases hp
    exact ⟨_, rfl, rfl⟩
  | te ds =>
    obtain ⟨c, rfl, h2, h3, h4⟩ := hr
    unfold AE.pass1 at hp
    cases b with
    | true => cases hp
    | false =>
      cases hp
      exact ⟨.lent c ds, by unfold pass1; simp only [h4]; rfl, rfl, h2⟩
  | va i =>
    have hr : s.sl[i]? = some (some r) := hr
    unfold AE.pass1 at hp
    simp only at hp
    split at hp
    · rename_i d e
      cases hp
      rw [h.da i _ e] at hr
      cases hr
      exact ⟨_, rfl, rfl⟩
    · split at hp
      · rename_i es hc
        cases hp
        obtain ⟨m, e1, e2, e3, _⟩ := h.home hc
        rw [e1] at hr
        cases hr
        exact ⟨.sh (.list es), by unfold pass1; simp only [e3], rfl⟩
      · rename_i es hc
        obtain ⟨m, e1, e2, e3, _⟩ := h.home hc
        rw [e1] at hr
        cases hr
        cases b <;> cases hp
        · exact ⟨.lent m es, by unfold pass1; simp only [e3]; rfl, rfl, e1, e2⟩
        · exact ⟨.io m (.lv es), by unfold pass1; simp only [e3]; rfl, rfl, e1, e2⟩
      · rename_i es hc
        obtain ⟨m, e1, e2, e3, _⟩ := h.home hc
        rw [e1] at hr
        cases hr
        cases b <;> cases hp
        · exact ⟨.lent m es, by unfold pass1; simp only [e3]; rfl, rfl, e1, e2⟩
        · exact ⟨.io m (.lk es), by unfold pass1; simp only [e3]; rfl, rfl, e1, e2⟩
      · rename_i es hc
        obtain ⟨m, e1, e2, e3, _⟩ := h.home hc
        rw [e1] at hr
        cases hr
        cases hp
        exact ⟨.io m (.dv es), by unfold pass1; simp only [e3], rfl, e1, e2⟩
      · cases hp
theorem passL_abs (h : Abs s a) : ∀ {md : List Bool} {rs : List R} {vs : List RV} {L : List PA}, RR2 s rs vs → a.passL md vs = some L → ∃ L', passL s md rs = some L' ∧ PRels s L L'
  | [], _, _, _, .nil, e => by cases e; exact ⟨[], rfl, .nil⟩
  | b :: bs, _, _, L, .cons h1 h2, e => by
    unfold AE.passL at e
    split at e
    · rename_i p e1
      obtain ⟨q, x1, x2⟩ := pass1_abs h h1 e1
      cases e2 : a.passL bs _ with
      | none => rw [e2] at e; cases e
      | some M =>
        rw [e2] at e
        cases e
        obtain ⟨M', y1, y2⟩ := passL_abs h h2 e2
        exact ⟨q :: M', by unfold passL; rw [x1]; simp only [y1]; rfl, .cons x2 y2⟩
    · cases e
  | [], _, _, _, .cons _ _, e => by cases e
  | _ :: _, _, _, _, .nil, e => by cases e
theorem prel_r {p : PA} {q : Pa} (h : PRel s p q) (i : Nat) : p.r i = q.r i := by
  cases p <;> cases q <;> first | exact h.elim | skip
  · cases h; rfl
  · rfl
  · cases h.1; rfl
  · cases h; rfl
theorem prel_c {p : PA} {q : Pa} (h : PRel s p q) : p.cell = q.cell := by
  cases p <;> cases q <;> first | exact h.elim | skip
  · rfl
  · exact h.1
  · rfl
  · rfl
theorem prels_ps : ∀ {L : List PA} {L' : List Pa}, PRels s L L' → psA L = psOf L' := by
  intro L L' h
  unfold psA psOf
  apply List.ext_getElem?
  intro i
  have hg : ∀ (L : List PA) (k i : Nat), (psG k L)[i]? = (L[i]?).map fun p => p.r (k + i) := by
    intro L
    induction L with
    | nil => intro k i; simp [psG]
    | cons p L ih =>
      intro k i
      cases i with
      | zero => rfl
      | succ i => show (psG (k + 1) L)[i]? = (L[i]?).map _; rw [ih]; congr 1; funext p; congr 1; omega
  rw [hg, List.getElem?_mapIdx, Nat.zero_add]
  have : ∀ {L : List PA} {L' : List Pa} (i k : Nat), PRels s L L' → (L[i]?).map (fun p => p.r k) = (L'[i]?).map (fun p => p.r k) := by
    intro L L' i k h
    induction h generalizing i with
    | nil => rfl
    | cons h1 h2 ih =>
      cases i with
      | zero => simp [prel_r h1]
      | succ i => simpa using ih i
  exact this i i h
theorem prels_io : ∀ {L : List PA} {L' : List Pa}, PRels s L L' → ioA L = ioOf L'
  | _, _, .nil => rfl
  | _, _, .cons h k => by
    have := prels_io k
    unfold ioA ioOf at this ⊢
    rw [List.map_cons, List.map_cons, prel_c h, this]
theorem prels_lent : ∀ {L : List PA} {L' : List Pa}, PRels s L L' → lentA L = lentIn L'
  | _, _, .nil => rfl
  | _, _, .cons (p := p) (q := q) h k => by
    have := prels_lent k
    unfold lentA lentIn at this ⊢
    rw [List.any_cons, List.any_cons, this]
    congr 1
    cases p <;> cases q <;> first | exact h.elim | rfl
theorem prels_fine {b : Bool} : ∀ {L : List PA} {L' : List Pa} {io : List Cell}, PRels s L L' → fineA b L io = fineO b L' io
  | _, _, [], .nil => rfl
  | _, _, _ :: _, .nil => rfl
  | _, _, [], .cons (p := p) (q := q) h k => by cases p <;> cases q <;> first | exact h.elim | rfl
  | _, _, y :: io, .cons (p := p) (q := q) h k => by
    have := prels_fine (b := b) (io := io) k
    cases p <;> cases q <;> first | exact h.elim | (unfold fineA fineO; rw [this]; cases y <;> rfl) | (unfold fineA fineO; rw [this])
/-- where the io lists lie -/
theorem prels_mem : ∀ {L : List PA} {L' : List Pa} {m : Nat}, PRels s L L' → m ∈ L'.filterMap Pa.ioc → ∃ i, i ∈ L.filterMap PA.ioc ∧ s.sl[i]? = some (some (.own m)) ∧ m < s.base
  | _, _, _, .nil, e => by simp at e
  | _, _, m, .cons (p := p) (q := q) (L := M) (L' := M') h k, e => by
    cases p <;> cases q <;> first | exact h.elim | skip
    · rw [List.filterMap_cons_none rfl] at e ⊢
      exact prels_mem k e
    · rename_i i c m' x
      rw [List.filterMap_cons_some (show Pa.ioc (.io m' x) = some m' from rfl)] at e
      rw [List.filterMap_cons_some (show PA.ioc (.io i c) = some i from rfl)]
      rcases List.mem_cons.mp e with rfl | e
      · exact ⟨i, List.mem_cons_self, h.2.1, h.2.2⟩
      · obtain ⟨j, h1, h2⟩ := prels_mem k e
        exact ⟨j, List.mem_cons_of_mem _ h1, h2⟩
    · rw [List.filterMap_cons_none rfl] at e ⊢
      exact prels_mem k e
    · rw [List.filterMap_cons_none rfl] at e ⊢
      exact prels_mem k e
theorem home_inj (h : Abs s a) {i j m : Nat} (h1 : s.sl[i]? = some (some (.own m))) (h2 : s.sl[j]? = some (some (.own m))) : i = j := by
  have hi : i < s.sl.length := (List.getElem?_eq_some_iff.mp h1).1
  rcases h.hm i m h1 with q1 | ⟨q1, q2⟩ <;> rcases h.hm j m h2 with q3 | ⟨q3, q4⟩ <;> omega
theorem apart1 (h : Abs s a) : ∀ {L : List PA} {L' : List Pa}, PRels s L L' → (L.filterMap PA.ioc).Nodup → (L'.filterMap Pa.ioc).Nodup
  | _, _, .nil, _ => List.nodup_nil
  | _, _, .cons (p := p) (q := q) (L := M) (L' := M') g k, h1 => by
    cases p <;> cases q <;> first | exact g.elim | skip
    · rw [List.filterMap_cons_none rfl] at h1 ⊢; exact apart1 h k h1
    · rename_i i c m x
      rw [List.filterMap_cons_some (show PA.ioc (.io i c) = some i from rfl), List.nodup_cons] at h1
      rw [List.filterMap_cons_some (show Pa.ioc (.io m x) = some m from rfl), List.nodup_cons]
      refine ⟨fun hm => ?_, apart1 h k h1.2⟩
      obtain ⟨j, j1, j2, _⟩ := prels_mem k hm
      have := home_inj h g.2.1 j2
      subst this
      exact h1.1 j1
    · rw [List.filterMap_cons_none rfl] at h1 ⊢; exact apart1 h k h1
    · rw [List.filterMap_cons_none rfl] at h1 ⊢; exact apart1 h k h1
theorem lent1 : ∀ {L : List PA} {L' : List Pa} {c : Nat}, PRels s L L' → c ∈ L'.filterMap Pa.lc → ∃ o : Option Nat, (match o with | none => s.base ≤ c | some i => i ∈ L.filterMap PA.lec ∧ s.sl[i]? = some (some (.own c)) ∧ c < s.base)
  | _, _, _, .nil, hc => by simp at hc
  | _, _, c, .cons (p := p) (q := q) (L := M) (L' := M') g k, hc => by
    cases p <;> cases q <;> first | exact g.elim | skip
    · rw [List.filterMap_cons_none rfl] at hc
      obtain ⟨o, ho⟩ := lent1 k hc
      exact ⟨o, by cases o with
        | none => exact ho
        | some i => exact ⟨by rw [List.filterMap_cons_none rfl]; exact ho.1, ho.2⟩⟩
    · rw [List.filterMap_cons_none rfl] at hc
      obtain ⟨o, ho⟩ := lent1 k hc
      exact ⟨o, by cases o with
        | none => exact ho
        | some i => exact ⟨by rw [List.filterMap_cons_none rfl]; exact ho.1, ho.2⟩⟩
    · rename_i o ds c' es
      rw [List.filterMap_cons_some (show Pa.lc (.lent c' es) = some c' from rfl)] at hc
      rcases List.mem_cons.mp hc with rfl | hc
      · exact ⟨o, by
          cases o with
          | none => exact g.2
          | some i => exact ⟨by rw [List.filterMap_cons_some (show PA.lec (.le (some i) ds) = some i from rfl)]; exact List.mem_cons_self, g.2.1, g.2.2⟩⟩
      · obtain ⟨o', ho⟩ := lent1 k hc
        refine ⟨o', ?_⟩
        cases o' with
        | none => exact ho
        | some i =>
          refine ⟨?_, ho.2⟩
          cases o with
          | none => rw [List.filterMap_cons_none rfl]; exact ho.1
          | some j => rw [List.filterMap_cons_some (show PA.lec (.le (some j) ds) = some j from rfl)]; exact List.mem_cons_of_mem _ ho.1
    · rw [List.filterMap_cons_none rfl] at hc
      obtain ⟨o, ho⟩ := lent1 k hc
      exact ⟨o, by cases o with
        | none => exact ho
        | some i => exact ⟨by rw [List.filterMap_cons_none rfl]; exact ho.1, ho.2⟩⟩
theorem apart_abs (h : Abs s a) {L : List PA} {L' : List Pa} (hp : PRels s L L') (ha : apartA L = true) : apart L' = true := by
  unfold apartA at ha
  unfold apart
  have ⟨h1, h2⟩ := Bool.and_eq_true_iff.mp ha
  refine Bool.and_eq_true_iff.mpr ⟨decide_eq_true (apart1 h hp (of_decide_eq_true h1)), List.all_eq_true.mpr fun c hc => decide_eq_true fun hm => ?_⟩
  obtain ⟨j, j1, j2, j3⟩ := prels_mem hp hm
  obtain ⟨o, ho⟩ := lent1 hp hc
  cases o with
  | none => have ho : s.base ≤ c := ho; omega
  | some i =>
    obtain ⟨o1, o2, _⟩ := ho
    have := home_inj h o2 j2
    subst this
    exact absurd j1 (of_decide_eq_true ((List.all_eq_true.mp h2) i o1))
theorem setC_cell {i j : Nat} {c c0 : Cell} (hj : a.cell j = some c0) : ∃ c1, (a.setC i c).cell j = some c1 := by
  unfold AE.setC
  split
  · rename_i x e
    have hi : i < a.sl.length := (List.getElem?_eq_some_iff.mp e).1
    unfold AE.cell at hj ⊢
    simp only
    by_cases hij : i = j
    · subst hij; rw [List.getElem?_set_self hi]; exact ⟨_, rfl⟩
    · rw [List.getElem?_set_ne hij]; exact ⟨_, hj⟩
  · rename_i e
    unfold AE.cell at hj ⊢
    simp only
    cases ej : a.sl[j]? with
    | none => rw [ej] at hj; cases hj
    | some v =>
      rw [ej] at hj
      cases v with
      | ow c => exact ⟨_, rfl⟩
      | ar =>
        simp only at hj ⊢
        by_cases hij : i = j
        · subst hij
          have hi : i < a.io.length := (List.getElem?_eq_some_iff.mp hj).1
          rw [List.getElem?_set_self hi]; exact ⟨_, rfl⟩
        · rw [List.getElem?_set_ne hij]; exact ⟨_, hj⟩
      | un => cases hj
      | lo _ => cases hj
      | da _ => cases hj
      | ex _ => cases hj
  · exact ⟨_, hj⟩
/-- all io variables hold lists -/
def AE.iosOk (a : AE) (L : List PA) : Prop := ∀ p ∈ L, match p with
  | .io i _ => ∃ c, a.cell i = some c
  | _ => True
theorem wb_abs : ∀ {L : List PA} {L' : List Pa} {io : List Cell} {t : S} {a : AE}, (s.sl = t.sl ∧ s.np = t.np) → PRels s L L' → a.iosOk L → Abs t a → Abs (wbO L' io t) (a.wb L io) ∧ Fr t (wbO L' io t)
  | _, _, [], t, a, _, .nil, _, h => ⟨h, .refl⟩
  | _, _, _ :: _, t, a, _, .nil, _, h => ⟨h, .refl⟩
  | _, _, [], t, a, _, .cons (p := p) (q := q) _ _, _, h => by
    cases p <;> cases q <;> exact ⟨h, .refl⟩
  | _, _, y :: io, t, a, ht, .cons (p := p) (q := q) g k, hk, h => by
    have hk' : a.iosOk _ := fun x hx => hk x (List.mem_cons_of_mem _ hx)
    cases p <;> cases q <;> first | exact g.elim | skip
    · unfold wbO AE.wb; exact wb_abs ht k hk' h
    · rename_i i c m x
      obtain ⟨rfl, g2, g3⟩ := g
      obtain ⟨c0, hc0⟩ : ∃ c, a.cell i = some c := hk _ List.mem_cons_self
      unfold wbO AE.wb
      have g2' : t.sl[i]? = some (some (.own m)) := by rw [← ht.1]; exact g2
      have h1 := h.put (c := norm c y) hc0 g2' (fun _ _ => trivial)
      have hk2 : (a.setC i (norm c y)).iosOk _ := fun x hx => by
        have := hk' x hx
        cases x with
        | io j cj => obtain ⟨c1, hc1⟩ := this; exact setC_cell hc1
        | sh _ => trivial
        | le _ _ => trivial
        | ex _ => trivial
      obtain ⟨r1, r2⟩ := wb_abs (io := io) (t := t.put m (norm c y)) ht k hk2 h1
      exact ⟨r1, (Fr.put (by unfold S.base; rw [← ht.1, ← ht.2]; exact g3)).trans r2⟩
    · unfold wbO AE.wb; exact wb_abs ht k hk' h
    · unfold wbO AE.wb; exact wb_abs ht k hk' h
theorem iosOk_of : ∀ {md : List Bool} {vs : List RV} {L : List PA}, a.passL md vs = some L → a.iosOk L
  | [], [], _, e => by cases e; intro p hp; simp at hp
  | b :: bs, v :: vs, L, e => by
    unfold AE.passL at e
    split at e
    · rename_i p e1
      cases e2 : a.passL bs vs with
      | none => rw [e2] at e; cases e
      | some M =>
        rw [e2] at e
        cases e
        intro x hx
        rcases List.mem_cons.mp hx with rfl | hx
        · cases x with
          | io i c =>
            unfold AE.pass1 at e1
            cases v with
            | da d => cases e1
            | xc d => cases e1
            | td d => cases e1
            | tz d => cases e1
            | te ds => simp only at e1; split at e1 <;> cases e1
            | va j =>
              simp only at e1
              split at e1
              · cases e1
              · split at e1
                · cases e1
                · rename_i hc; cases b <;> cases e1; exact ⟨_, hc⟩
                · rename_i hc; cases b <;> cases e1; exact ⟨_, hc⟩
                · rename_i hc; cases e1; exact ⟨_, hc⟩
                · cases e1
          | sh _ => trivial
          | le _ _ => trivial
          | ex _ => trivial
        · exact iosOk_of e2 x hx
    · cases e
  | [], _ :: _, _, e => by cases e
  | _ :: _, [], _, e => by cases e
theorem prels_at : ∀ {L : List PA} {L' : List Pa} {k i : Nat} {c : Cell}, PRels s L L' → L[k]? = some (.io i c) → ∃ m, L'[k]? = some (.io m c) ∧ s.sl[i]? = some (some (.own m))
  | _, _, _, _, _, .nil, e => by simp at e
  | _, _, 0, i, c, .cons (p := p) (q := q) g _, e => by
    cases e
    cases q <;> first | exact g.elim | skip
    obtain ⟨rfl, g2, _⟩ := g
    exact ⟨_, rfl, g2⟩
  | _, _, k + 1, i, c, .cons _ h, e => prels_at (k := k) (i := i) (c := c) h e
theorem j_call {md : List Bool} {F : FT} {m q : Nat} {ix : List Nat} {rv : Rv} {ios : List Cell} (hA : JA fa a vs a1) (hK : JA fk a1 ks a2) (hm : vs.length = m ∧ ks.length = q) (hL : a2.passL md (pick ix (vs ++ ks ++ ds.map RV.da)) = some L) (hap : apartA L = true)
    (ho : outF F (psA L) (ioA L) = some (rv, ios)) (hf : fineA (lentA L) L ios = true) (hv : okV (lentA L) rv = true) (hr : retV L rv = some v) : J (callF md F m q ix ds fa fk) a v (a2.wb L ios) := fun s hs => by
  obtain ⟨rs, s1, e1, p1, n1, q1, k1⟩ := hA s hs
  obtain ⟨qs, s2, e2, p2, n2, q2, k2⟩ := hK s1 q1
  have pw : RR2 s2 (pick ix (rs ++ qs ++ ds.map R.sh)) (pick ix (vs ++ ks ++ ds.map RV.da)) := ((((p1.fr k2).two).app p2.two).app (RR2.das ds)).pick ix
  obtain ⟨L', l1, l2⟩ := passL_abs q2 pw hL
  have k12 := k1.trans k2
  obtain ⟨w1, w2⟩ := wb_abs (io := ios) ⟨rfl, rfl⟩ l2 (iosOk_of hL) q2
  have hlen : rs.length = m ∧ qs.length = q := ⟨by rw [p1.two.len]; exact hm.1, by rw [p2.two.len]; exact hm.2⟩
  have hcall : callF md F m q ix ds fa fk s = retO L' rv ios s2 := by
    unfold callF
    rw [e1, Res.bind_ok, e2, Res.bind_ok, if_pos hlen, callD_eq, l1]
    simp only
    rw [if_pos (apart_abs q2 l2 hap), ← prels_ps l2, ← prels_io l2, ho]
  rw [hcall]
  unfold retO
  rw [← prels_lent l2, ← prels_fine l2, if_pos hf]
  cases rv with
  | exn _ => cases hr
  | sh d =>
    cases hr
    simp only
    rw [if_pos (show (!lentA L || atomD d) = true from hv)]
    exact ⟨_, _, rfl, rfl, fun _ e => (by cases e), w1, k12.trans w2⟩
  | new es =>
    cases hr
    simp only
    rw [if_pos (show (!lentA L || atomDs es) = true from hv)]
    obtain ⟨z1, z2, z3⟩ := new_ok w1 es
    have hle : (wbO L' ios s2).ce.length = s2.ce.length := by
      have : ∀ (M : List Pa) (io : List Cell) (t : S), (wbO M io t).ce.length = t.ce.length := by
        intro M
        induction M with
        | nil => intro io t; cases io <;> rfl
        | cons p M ih =>
          intro io t
          cases io with
          | nil => cases p <;> rfl
          | cons y io =>
            cases p with
            | io c x => unfold wbO; rw [ih, put_len]
            | sh _ => unfold wbO; exact ih _ _
            | lent _ _ => unfold wbO; exact ih _ _
            | ex _ => unfold wbO; exact ih _ _
      exact this _ _ _
    rw [← hle]
    exact ⟨_, _, rfl, z1, fun c e => (by cases e; exact .inr (Nat.le_trans k12.le w2.le)), z2, (k12.trans w2).trans z3⟩
  | nwd es =>
    cases hr
    simp only
    rw [if_pos (show (!lentA L || atomDs (es.map (·.2))) = true from hv)]
    obtain ⟨z1, z2, z3⟩ := new_okD w1 es
    have hle : (wbO L' ios s2).ce.length = s2.ce.length := by
      have : ∀ (M : List Pa) (io : List Cell) (t : S), (wbO M io t).ce.length = t.ce.length := by
        intro M
        induction M with
        | nil => intro io t; cases io <;> rfl
        | cons p M ih =>
          intro io t
          cases io with
          | nil => cases p <;> rfl
          | cons y io =>
            cases p with
            | io c x => unfold wbO; rw [ih, put_len]
            | sh _ => unfold wbO; exact ih _ _
            | lent _ _ => unfold wbO; exact ih _ _
            | ex _ => unfold wbO; exact ih _ _
      exact this _ _ _
    rw [← hle]
    exact ⟨_, _, rfl, z1, fun c e => (by cases e; exact .inr (Nat.le_trans k12.le w2.le)), z2, (k12.trans w2).trans z3⟩
  | nwt es =>
    cases hr
    simp only
    obtain ⟨z1, z2, z3⟩ := new_okT w1 es
    have hle : (wbO L' ios s2).ce.length = s2.ce.length := by
      have : ∀ (M : List Pa) (io : List Cell) (t : S), (wbO M io t).ce.length = t.ce.length := by
        intro M
        induction M with
        | nil => intro io t; cases io <;> rfl
        | cons p M ih =>
          intro io t
          cases io with
          | nil => cases p <;> rfl
          | cons y io =>
            cases p with
            | io c x => unfold wbO; rw [ih, put_len]
            | sh _ => unfold wbO; exact ih _ _
            | lent _ _ => unfold wbO; exact ih _ _
            | ex _ => unfold wbO; exact ih _ _
      exact this _ _ _
    rw [← hle]
    exact ⟨_, _, rfl, z1, fun c e => (by cases e; exact .inr (Nat.le_trans k12.le w2.le)), z2, (k12.trans w2).trans z3⟩
  | arg k =>
    unfold retV at hr
    simp only at hr
    split at hr
    · rename_i i c e
      cases hr
      obtain ⟨m', x1, x2⟩ := prels_at l2 e
      simp only [x1]
      refine ⟨_, _, rfl, ?_, fun c e => ?_, w1, k12.trans w2⟩
      · show (wbO L' ios s2).sl[i]? = _; rw [w2.sl]; exact x2
      · cases e
        have hi : i < s2.sl.length := (List.getElem?_eq_some_iff.mp x2).1
        left
        rw [← k12.base]
        rcases q2.hm i m' x2 with z | ⟨z, z2⟩ <;> unfold S.base <;> omega
    · cases hr
end
/-! ### a def as a whole -/
def avs : Nat → List R → List AV
  | _, [] => []
  | k, .sh d :: ps => .da d :: avs (k + 1) ps
  | k, .own c :: ps => (match Nat.beq c k with | true => .ar | false => .un) :: avs (k + 1) ps
  | k, .ex x :: ps => .ex x :: avs (k + 1) ps
def entA (n : Nat) (ps : List R) (io : List Cell) : AE := ⟨avs 0 ps ++ List.replicate (n - ps.length) .un, io⟩
def ownsG : Nat → List R → Bool
  | _, [] => true
  | k, .sh _ :: ps => ownsG (k + 1) ps
  | k, .own c :: ps => Nat.beq c k && ownsG (k + 1) ps
  | k, .ex _ :: ps => ownsG (k + 1) ps
def ownsOk (ps : List R) : Bool := ownsG 0 ps
theorem avs_len : ∀ (k : Nat) (ps : List R), (avs k ps).length = ps.length
  | _, [] => rfl
  | k, .sh d :: ps => by simp [avs, avs_len (k + 1) ps]
  | k, .own c :: ps => by simp [avs, avs_len (k + 1) ps]
  | k, .ex x :: ps => by simp [avs, avs_len (k + 1) ps]
theorem avs_get : ∀ (k : Nat) (ps : List R) (i : Nat), (avs k ps)[i]? = (ps[i]?).map fun r => match r with
    | .sh d => AV.da d
    | .own c => if c = k + i then .ar else .un
    | .ex x => .ex x
  | _, [], i => by simp [avs]
  | k, .sh d :: ps, 0 => rfl
  | k, .ex d :: ps, 0 => rfl
  | k, .own c :: ps, 0 => by
    show some _ = some _
    by_cases h : c = k
    · subst h; simp
    · have : Nat.beq c k = false := by
        cases q : Nat.beq c k with
        | false => rfl
        | true => exact absurd (Nat.eq_of_beq_eq_true q) h
      simp [this, h]
  | k, .sh d :: ps, i + 1 => by
    show (avs (k + 1) ps)[i]? = (ps[i]?).map _
    rw [avs_get (k + 1) ps i]
    congr 1
    funext r
    cases r with
    | sh d => rfl
    | ex d => rfl
    | own c => simp only; rw [show k + 1 + i = k + (i + 1) by omega]
  | k, .ex d :: ps, i + 1 => by
    show (avs (k + 1) ps)[i]? = (ps[i]?).map _
    rw [avs_get (k + 1) ps i]
    congr 1
    funext r
    cases r with
    | sh d => rfl
    | ex d => rfl
    | own c => simp only; rw [show k + 1 + i = k + (i + 1) by omega]
  | k, .own c :: ps, i + 1 => by
    show (avs (k + 1) ps)[i]? = (ps[i]?).map _
    rw [avs_get (k + 1) ps i]
    congr 1
    funext r
    cases r with
    | sh d => rfl
    | ex d => rfl
    | own c => simp only; rw [show k + 1 + i = k + (i + 1) by omega]
theorem owns_get : ∀ (k : Nat) (ps : List R), ownsG k ps = true → ∀ (i c : Nat), ps[i]? = some (.own c) → c = k + i
  | _, [], _, i, c, e => by simp at e
  | k, .sh d :: ps, h, 0, c, e => by simp at e
  | k, .ex d :: ps, h, 0, c, e => by simp at e
  | k, .own c' :: ps, h, 0, c, e => by
    cases e
    exact Nat.eq_of_beq_eq_true (Bool.and_eq_true_iff.mp h).1
  | k, .sh d :: ps, h, i + 1, c, e => by
    have := owns_get (k + 1) ps h i c e
    omega
  | k, .ex d :: ps, h, i + 1, c, e => by
    have := owns_get (k + 1) ps h i c e
    omega
  | k, .own c' :: ps, h, i + 1, c, e => by
    have := owns_get (k + 1) ps (Bool.and_eq_true_iff.mp h).2 i c e
    omega
theorem ent_abs {n : Nat} {ps : List R} {io : List Cell} (hl : ps.length = io.length) (hn : ps.length ≤ n) (ho : ownsOk ps = true) : Abs (ent n ps io) (entA n ps io) := by
  have slots : ∀ (i : Nat) (r : R), (ent n ps io).sl[i]? = some (some r) → ps[i]? = some r := fun i r e => by
    have e : (ps.map some ++ List.replicate (n - ps.length) none)[i]? = some (some r) := e
    rw [List.getElem?_append] at e
    split at e
    · rw [List.getElem?_map] at e
      cases q : ps[i]? with
      | none => rw [q] at e; cases e
      | some x => rw [q] at e; cases e; rfl
    · rw [List.getElem?_replicate] at e
      split at e <;> cases e
  have own : ∀ (i c : Nat), ps[i]? = some (.own c) → c = i := fun i c e => by
    have := owns_get 0 ps ho i c e
    omega
  have ae : ∀ (i : Nat) (v : AV), (entA n ps io).sl[i]? = some v → v ≠ .un → ∃ r, ps[i]? = some r ∧ v = (match r with | .sh d => AV.da d | .own c => if c = i then .ar else .un | .ex x => .ex x) := fun i v e hv => by
    unfold entA at e
    simp only at e
    rw [List.getElem?_append] at e
    split at e
    · rw [avs_get] at e
      cases q : ps[i]? with
      | none => rw [q] at e; cases e
      | some r =>
        rw [q] at e
        cases e
        refine ⟨r, rfl, ?_⟩
        cases r with
        | sh d => rfl
        | ex d => rfl
        | own c => simp only [Nat.zero_add]
    · rw [List.getElem?_replicate] at e
      split at e
      · cases e; exact absurd rfl hv
      · cases e
  have sl : ∀ (i : Nat) (r : R), ps[i]? = some r → (ent n ps io).sl[i]? = some (some r) := fun i r e => by
    have hi : i < ps.length := (List.getElem?_eq_some_iff.mp e).1
    show (ps.map some ++ List.replicate (n - ps.length) none)[i]? = _
    rw [List.getElem?_append_left (by simpa using hi), List.getElem?_map, e]
    rfl
  have lens : (ent n ps io).sl.length = n := by
    show (ps.map some ++ List.replicate (n - ps.length) none).length = n
    simp; omega
  have cellA : ∀ c, io.length ≤ c → (ent n ps io).cellAt c = .dead := fun c hc => by
    unfold S.cellAt
    show ((io ++ List.replicate n Cell.dead)[c]?).getD .dead = .dead
    rw [List.getElem?_append_right hc, List.getElem?_replicate]
    split <;> rfl
  refine ⟨rfl, ?_, ?_, fun i d e => ?_, fun i c e => ?_, fun i e => ?_, fun i c e => ?_, fun i c e => ?_, fun i ds hi e => ?_, fun i ds e => ?_, fun i x e => ?_⟩
  · rw [lens]
    unfold entA
    simp [avs_len]; omega
  · unfold S.base
    rw [lens]
    show io.length + n ≤ (io ++ List.replicate n Cell.dead).length
    simp
  · obtain ⟨r, h1, h2⟩ := ae i _ e (by simp)
    cases r with
    | sh d' => cases h2; exact sl i _ h1
    | ex _ => cases h2
    | own c => simp only at h2; split at h2 <;> cases h2
  · obtain ⟨r, h1, h2⟩ := ae i _ e (by simp)
    cases r with
    | sh d' => cases h2
    | ex _ => cases h2
    | own c => simp only at h2; split at h2 <;> cases h2
  · obtain ⟨r, h1, h2⟩ := ae i _ e (by simp)
    cases r with
    | sh d' => cases h2
    | ex _ => cases h2
    | own c =>
      have := own i c h1
      subst this
      exact ⟨sl c _ h1, by show c < io.length; rw [← hl]; exact (List.getElem?_eq_some_iff.mp h1).1⟩
  · have e : io[i]? = some c := e
    have hi : i < io.length := (List.getElem?_eq_some_iff.mp e).1
    unfold S.cellAt
    show ((io ++ List.replicate n Cell.dead)[i]?).getD .dead = c
    rw [List.getElem?_append_left hi, e]
    rfl
  · have h1 := slots i _ e
    have := own i c h1
    subst this
    exact .inr ⟨rfl, by show c < io.length; rw [← hl]; exact (List.getElem?_eq_some_iff.mp h1).1⟩
  · rw [show (ent n ps io).np = io.length from rfl, cellA _ (Nat.le_add_right _ _)] at e
    cases e
  · obtain ⟨r, h1, h2⟩ := ae i _ e (by simp)
    cases r with
    | sh d' => cases h2
    | ex _ => cases h2
    | own c => simp only at h2; split at h2 <;> cases h2
  · obtain ⟨r, h1, h2⟩ := ae i _ e (by simp)
    cases r with
    | sh d' => cases h2
    | ex _ => cases h2; exact sl i _ h1
    | own c => simp only at h2; split at h2 <;> cases h2
theorem io_out {s : S} {io : List Cell} (h : IoIs s io) : (List.range io.length).map s.cellAt = io := by
  apply List.ext_getElem?
  intro i
  rw [List.getElem?_map]
  by_cases hi : i < io.length
  · rw [List.getElem?_range hi, List.getElem?_eq_getElem hi]
    exact congrArg some (h.at_ i _ (List.getElem?_eq_getElem hi))
  · rw [List.getElem?_eq_none (by simpa using hi), List.getElem?_eq_none (by omega)]
    rfl
theorem out_rt {β : Type} {n : Nat} {fb : SS} {ps : List R} {io ios : List Cell} {m : Option β} {o : β → Out} {b : β} {rv : Rv} (h : BJ fb (entA n ps io) m o) (hm : m = some b) (ho : o b = .rt rv ios) (hio : ios.length = io.length := by rfl)
    (hl : ps.length = io.length := by rfl) (hn : Nat.ble ps.length n = true := by rfl) (how : ownsOk ps = true := by rfl) : outF (runF n fb) ps io = some (rv, ios) := by
  obtain ⟨s', q⟩ := h b hm _ (ent_abs hl (Nat.le_of_ble_eq_true hn) how)
  rw [ho] at q
  obtain ⟨p0, ab⟩ := q
  have io' : (List.range io.length).map s'.cellAt = ios := by rw [← hio]; exact io_out ab
  rcases p0.cases with ⟨x, rfl, e⟩ | ⟨r, e, p⟩
  · have eF : runF n fb ps io = .exc x s' := by unfold runF; rw [e]
    unfold outF
    rw [eF]
    simp only
    rw [io']
  have eF : runF n fb ps io = .ok r s' := by unfold runF; rw [e]
  unfold outF
  rw [eF]
  simp only
  rw [io']
  have hnp : s'.np = io.length := by rw [ab.np, hio]
  cases rv with
  | exn x => exact p.elim
  | sh d =>
    rcases p with rfl | ⟨c, ds, rfl, h2, h3, rfl⟩
    · rfl
    · simp only
      rw [if_neg (by omega), h3]
      rfl
  | new ds =>
    obtain ⟨c, rfl, h2, h3⟩ := p
    simp only
    rw [if_neg (by omega), h3]
    rfl
  | nwd ds =>
    obtain ⟨c, rfl, h2, h3⟩ := p
    simp only
    rw [if_neg (by omega), h3]
    rfl
  | nwt ds =>
    obtain ⟨c, rfl, h2, h3⟩ := p
    simp only
    rw [if_neg (by omega), h3]
    rfl
  | arg i =>
    obtain ⟨rfl, h2⟩ := p
    simp only
    rw [if_pos (by omega)]
    rfl
/-- a def that may come to its end -/
theorem bj_fall {β : Type} {st : SS} {a : AE} {m : Option β} {o : β → Out} {n : Nat} {ps : List R} {io : List Cell} {b : β} {rv : Rv} {ios : List Cell} (h : BJ (seqS st retN) a m o) (ha : a = entA n ps io) (hm : m = some b) (ho : o b = .rt rv ios) (hio : ios.length = io.length := by rfl)
    (hl : ps.length = io.length := by rfl) (hn : Nat.ble ps.length n = true := by rfl) (how : ownsOk ps = true := by rfl) : outF (runF n st) ps io = some (rv, ios) := by
  subst ha
  have e := out_rt h hm ho hio hl hn how
  rw [← e]
  have : runF n st ps io = runF n (seqS st retN) ps io ∨ ∃ s, (runF n st ps io = .ok (.sh .none) s ∧ runF n (seqS st retN) ps io = .ok (.sh .none) s) := by
    unfold runF seqS
    cases st (ent n ps io) with
    | bad => exact .inl rfl
    | exc x s => exact .inl rfl
    | ok fl s =>
      cases fl with
      | nx => exact .inr ⟨s, rfl, rfl⟩
      | bk => exact .inl rfl
      | ct => exact .inl rfl
      | rt r => exact .inl rfl
  unfold outF
  rcases this with q | ⟨s, q1, q2⟩
  · rw [q]
  · rw [q1, q2]
theorem keeps_of {F : FT} {m : Nat} (h : ∀ ns : List Int, ns.length ≤ m → ∃ ios, outF F [.sh (.list (ns.map PyData.int))] [.dead] = some (.sh (.bool true), ios)) : Keeps F m := fun ns hn => by
  obtain ⟨ios, e⟩ := h ns hn
  unfold outF at e
  cases q : F [.sh (.list (ns.map PyData.int))] [.dead] with
  | bad => rw [q] at e; cases e
  | exc x s => rw [q] at e; cases e
  | ok r s =>
    rw [q] at e
    cases r with
    | sh d => cases e; exact ⟨s, rfl⟩
    | ex _ => cases e
    | own c =>
      simp only at e
      split at e
      · cases e
      · cases z : s.cellAt c <;> rw [z] at e <;> cases e
end E
/-! X7: the rules as the printer uses them. -/
namespace E
open PySem PySem.Spec PyProof.Rows L2
section
variable {s s' : S} {a a' a1 a2 a3 : AE} {r : R} {v v1 v2 v3 : RV} {f g f1 f2 f3 : ES} {t : AS} {vs : List RV} {d d1 d2 d3 : D} {u u1 u2 : TS'} {b b1 b2 : Bool} {st S1 S2 S3 : SS} {β γ τ : Type} {m m1 m2 : Option β} {o o1 : β → Out} {e : τ → D}
theorem bj_sk (h : BJ (seqS st skipS) a m o) : BJ st a m o := fun b e s hs => by
  obtain ⟨s1, q1⟩ := h b e s hs
  refine ⟨s1, ?_⟩
  have : seqS st skipS s = st s := by
    unfold seqS
    cases st s with
    | bad => rfl
    | exc x s' => rfl
    | ok fl' s' => cases fl' <;> rfl
  rw [this] at q1
  exact q1
theorem bj_endgo {x : β} (ho : o x = .go a1) (w : Wk a a1) : BJ skipS a (some x) o := bj_go (dj_wk dj_skip w) ho
theorem bj_endnx {x : β} (ho : o x = .nx a1) (w : Wk a a1) : BJ skipS a (some x) o := bj_nx (dj_wk dj_skip w) ho
theorem bj_rw {A : τ → AE} {x y : τ} (h : x = y) (k : BJ st (A y) m o) : BJ st (A x) m o := h ▸ k
theorem at_map {xs : List τ} {i : Int} {x : τ} (h : L2.atI xs i = some x) : atD (xs.map e) i = some (e x) := by
  unfold atD L2.atI at *
  rw [List.length_map]
  cases q : ixN xs.length i with
  | none => rw [q] at h; cases h
  | some j =>
    rw [q] at h
    have h : xs[j]? = some x := h
    show (xs.map e)[j]? = _
    rw [List.getElem?_map, h]
    rfl
theorem j_ixL {xs : List τ} {i : Int} {x : τ} (h1 : J f1 a v1 a1) (h2 : J f2 a1 v2 a2) (q1 : a2.val v1 = some (.list (xs.map e))) (q2 : a2.val v2 = some (.int i)) (h : L2.atI xs i = some x) : J (bin2 idxR f1 f2) a (.da (e x)) a2 := j_two h1 h2 q1 q2 (rd_ix (at_map h))
theorem j_ixT {ds : List D} {i : Int} (h1 : J f1 a v1 a1) (h2 : J f2 a1 v2 a2) (q1 : a2.val v1 = some (.tuple ds)) (q2 : a2.val v2 = some (.int i)) (h : atD ds i = some d) : J (bin2 idxR f1 f2) a (.da d) a2 := j_two h1 h2 q1 q2 (rd_ixT h)
def dIx : D → Int → Option D
  | .list ds, i => atD ds i
  | .tuple ds, i => atD ds i
  | _, _ => none
theorem j_appL {i : Nat} {xs : List τ} {es : List D} {x : τ} (h0 : a.cell i = some (.lv es)) (h : J f a v a1) (hf : a1.frz v = some (e x, a2)) (hc : a2.cell i = some (.lv (xs.map e))) (hz : xs.length < sizeLine) (hq : a2.setC i (.lv ((xs ++ [x]).map e)) = a3) :
    J (methS appR (varS i) (consA f nilA)) a (.da .none) a3 := by
  subst hq
  rw [List.map_append]
  exact j_app h0 h hf hc (by rw [List.length_map]; exact hz)
theorem dj_subL {fi : ES} {i j : Nat} {k : Int} {xs : List τ} {x : τ} {c0 : Cell} (h : J f a v a1) (hc0 : a1.cell i = some c0) (hi : J fi a1 (.da (.int k)) a2) (hf : a2.frz v = some (e x, a3)) (hc : a3.cell i = some (.lv (xs.map e))) (hk : ixN xs.length k = some j) (hq : a3.setC i (.lv ((xs.set j x).map e)) = a') :
    DJ (subS (varS i) fi f) a a' := by
  subst hq
  rw [List.map_set]
  exact dj_sub h hc0 hi hf hc (by rw [List.length_map]; exact hk)
theorem rd_sub {i j : Int} : Rd2 subR (.int i) (.int j) (.int (i - j)) := rd_int trivial
theorem rd_fdiv {i j : Int} (h : cDiv i j) : Rd2 fdivR (.int i) (.int j) (.int (i / j)) := rd_int h
theorem rd_mod {i j : Int} (h : 0 < j) : Rd2 modR (.int i) (.int j) (.int (i % j)) := rd_int h
theorem rd_pow {i j : Int} (h : cPow i j) : Rd2 powR (.int i) (.int j) (.int (i ^ j.toNat)) := rd_int h
theorem rd_shl {i j : Int} (h : cShl i j) : Rd2 shlR (.int i) (.int j) (.int (i * 2 ^ j.toNat)) := rd_int h
theorem rd_lt {i j : Int} : Rd2 ltR (.int i) (.int j) (.bool (decide (i < j))) := rd_int trivial
theorem rd_le {i j : Int} : Rd2 leR (.int i) (.int j) (.bool (decide (i ≤ j))) := rd_int trivial
theorem rd_gt {i j : Int} : Rd2 gtR (.int i) (.int j) (.bool (decide (j < i))) := rd_int trivial
theorem rd_ge {i j : Int} : Rd2 geR (.int i) (.int j) (.bool (decide (j ≤ i))) := rd_int trivial
theorem ok_sh {α : Type} [Enc α] [AtE α] (l : Bool) (x : α) : okV l (.sh (enc x)) = true := by show (!l || atomD (enc x)) = true; rw [AtE.at_ x]; cases l <;> rfl
theorem ok_new {α : Type} [Enc α] [AtE α] (l : Bool) (xs : List α) : okV l (.new (xs.map enc)) = true := by show (!l || atomDs (xs.map enc)) = true; rw [atE_list xs]; cases l <;> rfl
@[simp] theorem letP_def {α β : Type} (e : α) (k : α → Option β) : letP e k = k e := rfl
def Lr.elim {σ ρ δ : Type} (g : σ → δ) (h : ρ → δ) : Lr σ ρ → δ
  | .go x => g x
  | .rt r => h r
theorem j_callE {fa fk : AS} {ks : List RV} {ds : List D} {L : List PA} {md : List Bool} {F : FT} {m q : Nat} {ix : List Nat} {rv : Rv} {ios : List Cell} (hA : JA fa a vs a1) (hK : JA fk a1 ks a2) (hm : vs.length = m ∧ ks.length = q) (hL : a2.passL md (pick ix (vs ++ ks ++ ds.map RV.da)) = some L) (hap : apartA L = true)
    (ho : outF F (psA L) (ioA L) = some (rv, ios)) (hf : fineA (lentA L) L ios = true) (hv : okV (lentA L) rv = true) (hr : retV L rv = some v) (hq : a2.wb L ios = a3) : J (callF md F m q ix ds fa fk) a v a3 := hq ▸ j_call hA hK hm hL hap ho hf hv hr
theorem j_compE {β : Type} {e' : β → D} {it : IS} {g : Tg} {ws : List Nat} {ft : TS'} {fe : ES} {ls : List Lk} {step : τ → Option (List β)} {ys : List τ} {zs : List β} (hi : JI it a (ys.map e) ls a1) (hw : a1.flats ws = true) (hg : (a1.wipe ws).flats g.slots = true) (hlk : ls.all a1.lkOk = true)
    (hz : compB step ys = some zs) (hl : zs.length ≤ sizeLine) (hB : ∀ n y o, step y = some o → ∃ b, AE.tgt g (e y) (a1.wipe ws) = some b ∧ CT ft (addE fe n) n b e' o) (hq : a1.unl ls = a3) : J (compS it g ws ft fe) a (.te (zs.map e')) a3 := hq ▸ j_comp hi hw hg hlk hz hl hB
/-- a slot that may be unset -/
def ovA {α : Type} [Enc α] : Option α → AV
  | none => .un
  | some x => .da (enc x)
theorem RReps.das {rs : List R} : ∀ (ds : List D) {vs : List RV}, RReps s rs vs → RReps s (ds.map R.sh ++ rs) (ds.map RV.da ++ vs)
  | [], _, h => h
  | d :: ds, _, h => .cons rfl (RReps.das ds h) (fun _ e => by cases e)
/-! ### walks -/
def enumL : Int → List τ → List (T2 Int τ)
  | _, [] => []
  | k, x :: xs => ⟨k, x⟩ :: enumL (k + 1) xs
theorem enum_map [Enc τ] : ∀ (n : Nat) (xs : List τ), enumD n (xs.map enc) = (enumL (n : Int) xs).map enc
  | _, [] => rfl
  | n, x :: xs => by
    rw [List.map_cons, enumD, enum_map (n + 1) xs]
    rfl
def zipL : List τ → List γ → List (T2 τ γ)
  | x :: xs, y :: ys => ⟨x, y⟩ :: zipL xs ys
  | _, _ => []
/-! ### None -/
class NN (α : Type) [Enc α] : Prop where
  nn : ∀ x : α, isNone (enc x) = false
instance : NN Int := ⟨fun _ => rfl⟩
instance : NN Bool := ⟨fun _ => rfl⟩
instance : NN Str := ⟨fun _ => rfl⟩
instance {α : Type} [Enc α] : NN (List α) := ⟨fun _ => rfl⟩
instance {α : Type} [Enc α] : NN (T1 α) := ⟨fun _ => rfl⟩
instance {α β : Type} [Enc α] [Enc β] : NN (T2 α β) := ⟨fun _ => rfl⟩
instance {α β γ : Type} [Enc α] [Enc β] [Enc γ] : NN (T3 α β γ) := ⟨fun _ => rfl⟩
instance {α β γ δ : Type} [Enc α] [Enc β] [Enc γ] [Enc δ] : NN (T4 α β γ δ) := ⟨fun _ => rfl⟩
theorem isN_opt {α : Type} [Enc α] [h : NN α] (x : Option α) : isNone (enc x) = x.isNone := by
  cases x with
  | none => rfl
  | some y => exact h.nn y
theorem rd_isN {α : Type} [Enc α] [NN α] {x : Option α} : Rd1 (isNR false) (enc x) (.bool x.isNone) := by
  rw [← isN_opt]
  exact rd1_isN
theorem rd_eqD {x y : D} (h : eqOk x y = true) : Rd2 (eqR false) x y (.bool (PyData.eqv x y)) := rd_eq h rfl
theorem rd_neD {x y : D} (h : eqOk x y = true) : Rd2 (eqR true) x y (.bool (!PyData.eqv x y)) := rd_eq h rfl
class FlE (α : Type) [Enc α] : Prop where
  fl : ∀ x : α, flatD (enc x) = true
instance : FlE Int := ⟨fun _ => rfl⟩
instance : FlE Bool := ⟨fun _ => rfl⟩
instance : FlE Str := ⟨fun _ => rfl⟩
instance : FlE Unit := ⟨fun _ => rfl⟩
theorem flat_all [Enc τ] [FlE τ] : ∀ xs : List τ, (xs.map enc).all flatD = true
  | [] => rfl
  | x :: xs => by rw [List.map_cons, List.all_cons, FlE.fl x, flat_all xs]; rfl
theorem any_eq [Enc τ] [DecidableEq τ] [h : EqE τ] (x : τ) : ∀ xs : List τ, ((xs.map enc).any fun z => PyData.eqv z (enc x)) = decide (x ∈ xs)
  | [] => rfl
  | y :: ys => by
    rw [List.map_cons, List.any_cons, any_eq x ys, h.eq]
    by_cases hy : y = x
    · subst hy; simp
    · simp [hy, Ne.symm hy]
theorem rd_notInT [Enc τ] [DecidableEq τ] [EqE τ] [FlE τ] {x : τ} {xs : List τ} : Rd2 (inR true) (enc x) (.tuple (xs.map enc)) (.bool (!decide (x ∈ xs))) := fun r1 r2 s h1 h2 => by
  unfold inR; rw [h1, h2, ← any_eq]; exact if_pos ⟨FlE.fl x, flat_all xs⟩
theorem jt_truB (h : J f a v a1) (q : a1.val v = some (.bool b)) : JT (truS f) a b a1 := jt_tru h q rfl
theorem rd_notB : Rd1 notR (.bool b) (.bool (!b)) := rd1_not rfl
end
end E
/-! X8: more rules. -/
namespace E
open PySem PySem.Spec PyProof.Rows L2
section
variable {s s' : S} {a a' a1 a2 a3 : AE} {r : R} {v v1 v2 v3 : RV} {f g f1 f2 f3 : ES} {t : AS} {vs : List RV} {d d1 d2 d3 : D}
theorem bj_el {σ ρ β : Type} {S : SS} {x : σ} {g : σ → Option β} {h : ρ → Option β} {o : β → Out} (q : BJ S a (g x) o) : BJ S a (Lr.elim g h (.go x)) o := q
def AE.asgs : List Nat → List RV → AE → Option AE
  | [], [], a => some a
  | i :: is, v :: vs, a => match a.asg i v with
    | some a1 => AE.asgs is vs a1
    | none => none
  | _, _, _ => none
end
end E
/-! X9: comprehensions that change lists on the way. -/
namespace E
open PySem PySem.Spec PyProof.Rows L2
/-- slots alike but for what the lists hold -/
inductive SimL : List AV → List AV → Prop where
  | nil : SimL [] []
  | s {v : AV} {l l' : List AV} : SimL l l' → SimL (v :: l) (v :: l')
  | o {c c' : Cell} {l l' : List AV} : SimL l l' → SimL (.ow c :: l) (.ow c' :: l')
theorem SimL.len : ∀ {l l' : List AV}, SimL l l' → l.length = l'.length
  | _, _, .nil => rfl
  | _, _, .s h => by simp [h.len]
  | _, _, .o h => by simp [h.len]
theorem SimL.get : ∀ {l l' : List AV}, SimL l l' → ∀ (i : Nat) (v : AV), l'[i]? = some v → l[i]? = some v ∨ ∃ c c', v = .ow c' ∧ l[i]? = some (.ow c)
  | _, _, .nil, i, v, e => by simp at e
  | _, _, .s h, 0, v, e => .inl e
  | _, _, .s h, i + 1, v, e => by simpa using h.get i v (by simpa using e)
  | _, _, .o (c := c) (c' := c') h, 0, v, e => .inr ⟨c, c', by simpa using e.symm, rfl⟩
  | _, _, .o h, i + 1, v, e => by simpa using h.get i v (by simpa using e)
theorem SimL.refl : ∀ l : List AV, SimL l l
  | [] => .nil
  | _ :: l => .s (SimL.refl l)
structure Sim (a a' : AE) : Prop where
  sl : SimL a.sl a'.sl
  io : a.io.length = a'.io.length
section
variable {s s' s₂ s0 t : S} {a b a' b' a0 a1 a2 a3 : AE} {r : R} {v v1 v2 v3 : RV} {f g f1 f2 f3 : ES} {vs : List RV} {d d1 d2 d3 : D} {u u1 u2 : TS'} {ds : List D} {ls : List Lk}
theorem SimL.set : ∀ {l l' : List AV} {i : Nat} {v : AV}, SimL l l' → SimL (l.set i v) (l'.set i v)
  | _, _, _, _, .nil => .nil
  | _, _, 0, _, .s h => .s h
  | _, _, i + 1, _, .s h => .s h.set
  | _, _, 0, _, .o h => .s h
  | _, _, i + 1, _, .o h => .o h.set
theorem Sim.wipe (h : Sim a a') : ∀ (vs : List Nat), Sim (a.wipe vs) (a'.wipe vs)
  | [] => h
  | v :: vs => ⟨(Sim.wipe h vs).sl.set, h.io⟩
/-- what a body adds, and changes -/
def BDM (bd : S → Option S) (n : Nat) (b b' : AE) (outs : List D) : Prop := ∀ s acc, Abs s b → s.base ≤ n → n < s.ce.length → s.cellAt n = .lv acc → acc.length + outs.length ≤ sizeLine →
  ∃ s', bd s = some s' ∧ s'.np = s.np ∧ s.ce.length ≤ s'.ce.length ∧ Abs ⟨s.sl, s'.ce, s.np⟩ b' ∧ s'.cellAt n = .lv (acc ++ outs) ∧ ∀ c, s.base ≤ c → c < s.ce.length → c ≠ n → s'.cellAt c = s.cellAt c
def compM {σ τ β : Type} (step : σ → τ → Option (σ × List β)) : List τ → σ → Option (σ × List β)
  | [], x => some (x, [])
  | y :: ys, x => (step x y).bind fun p => (compM step ys p.1).bind fun q => some (q.1, p.2 ++ q.2)
def CTM {β : Type} (ft : TS') (bd : S → Option S) (n : Nat) (b b' : AE) (e' : β → D) (o : List β) : Prop := (JT ft b false b' ∧ o = []) ∨ ∃ b1, JT ft b true b1 ∧ BDM bd n b1 b' (o.map e')
end
end E
/-! X10: list(range(..)), xs[::-1], slices of tuples, range with a step, chains of three. -/
namespace E
open PySem PySem.Spec PyProof.Rows L2
section
variable {a a1 a2 a3 a' : AE} {f f1 f2 f3 g : ES} {v v1 v2 v3 : RV} {τ : Type} {e : τ → D} {d : D}
/-- how many items range(i, j, c) has -/
def cntR (i j c : Int) : Nat := (if i < j then (j - i - 1) / c + 1 else 0).toNat
end
end E
namespace E
open PySem PySem.Spec PyProof.Rows L2
section
variable {a a1 a2 a3 : AE} {f1 f2 f3 f4 : ES} {v1 v2 v3 v4 : RV} {d1 d2 d3 d4 : D} {b1 b2 b3 : Bool}
end
end E
namespace E
open PySem PySem.Spec PyProof.Rows L2
section
variable {f g : ES} {a a1 a2 : AE}
end
end E
namespace E
open PySem PySem.Spec PyProof.Rows L2
section
variable {τ : Type}
end
end E
namespace E
open PySem PySem.Spec PyProof.Rows L2
section
variable {f o : ES} {fs : List ES} {a a1 a2 : AE} {v : RV}
theorem j_fmtI {i : Int} (h : J f a (.da (.int i)) a1) (hz : i.natAbs.log2 < 1920) : J (fmtS f) a (.da (.str (Str.ofString (toString i)))) a1 := fun s hs => by
  obtain ⟨r, s1, e1, p1, n1, q1, k1⟩ := h s hs
  cases (show r = .sh (.int i) from p1)
  refine ⟨.sh (.str (Str.ofString (toString i))), s1, ?_, rfl, fun _ e => (by cases e), q1, k1⟩
  unfold fmtS
  rw [e1, Res.bind_ok]
  show (if i.natAbs.log2 < 1920 then _ else _) = _
  rw [if_pos hz]
theorem j_jsNil {acc : Str} : J (jsL [] acc) a (.da (.str acc)) a := fun s hs => ⟨.sh (.str acc), s, rfl, rfl, fun _ e => (by cases e), hs, .refl⟩
theorem j_jsCons {acc y z : Str} (h : J f a (.da (.str y)) a1) (hz : (acc ++ y).length ≤ sizeLine) (r : J (jsL fs (acc ++ y)) a1 (.da (.str z)) a2) : J (jsL (f :: fs) acc) a (.da (.str z)) a2 := fun s hs => by
  obtain ⟨r1, s1, e1, p1, n1, q1, k1⟩ := h s hs
  obtain ⟨r2, s2, e2, p2, n2, q2, k2⟩ := r s1 q1
  cases (show r1 = .sh (.str y) from p1)
  refine ⟨r2, s2, ?_, p2, fun c e => (by cases (show r2 = .sh (.str z) from p2); cases e), q2, k1.trans k2⟩
  unfold jsL
  rw [e1, Res.bind_ok]
  show (if (acc ++ y).length ≤ sizeLine then _ else _) = _
  rw [if_pos hz, e2]
theorem j_js {z : Str} (h : J (jsL fs Str.empty) a (.da (.str z)) a1) : J (jsS fs) a (.da (.str z)) a1 := h
theorem strsOf_enc : ∀ ys : List Str, strsOf (ys.map enc) = some ys
  | [] => rfl
  | y :: ys => by
    show (strsOf (ys.map enc)).map (y :: ·) = _
    rw [strsOf_enc ys]
    rfl
theorem j_joinT {sep : Str} {ys : List Str} (ho : J o a (.da (.str sep)) a1) (hf : J f a1 v a2) (q : a2.val v = some (.list (ys.map enc))) (hz : (ys.map (·.length)).sum + ys.length * sep.length ≤ 16777216) : J (methT joinR o (consA f nilA)) a (.da (.str (Txt.join sep ys))) a2 := fun s hs => by
  obtain ⟨r1, s1, e1, p1, n1, q1, k1⟩ := ho s hs
  obtain ⟨r2, s2, e2, p2, n2, q2, k2⟩ := hf s1 q1
  cases (show r1 = .sh (.str sep) from p1)
  refine ⟨.sh (.str (Txt.join sep ys)), s2, ?_, rfl, fun _ e => (by cases e), q2, k1.trans k2⟩
  unfold methT
  rw [e1, Res.bind_ok]
  show (if true = true then _ else _) = _
  rw [if_pos rfl]
  unfold consA nilA
  rw [e2, Res.bind_ok]
  show joinR (.sh (.str sep)) [r2] s2 = _
  have lk := look_of q2 p2 q
  unfold joinR
  show (match s2.look r2 with | some (.list ds) => _ | _ => _) = _
  rw [lk]
  show (match strsOf (ys.map enc) with | some ys => _ | none => _) = _
  rw [strsOf_enc]
  show (if _ then _ else _) = _
  rw [if_pos hz]
/-- str(int) -/
theorem o_strI {i : Int} (hz : i.natAbs.log2 < 1920) : ∀ s, strD (.int i) s = .ok (.sh (.str (Str.ofString (toString i)))) s := fun s => by
  unfold strD
  exact if_pos hz
end
end E
/-! X15: a new list is given to a def that changes it, and is let go. -/
namespace E
open PySem PySem.Spec PyProof.Rows L2
section
variable {fa : AS} {a a1 : AE} {v : RV} {s s' : S}
end
end E
/-! X16: data of any kind looked at as a number, a text, a list, a tuple. -/
namespace E
open PySem PySem.Spec PyProof.Rows L2
def dInt : D → Option Int
  | .int i => some i
  | _ => none
def dStr : D → Option Str
  | .str i => some i
  | _ => none
def dList : D → Option (List D)
  | .list i => some i
  | _ => none
def dTup : D → Option (List D)
  | .tuple i => some i
  | _ => none
def dLen : D → Option Int
  | .list ds => some ds.length
  | .tuple ds => some ds.length
  | _ => none
def dT2 : D → Option (T2 D D)
  | .tuple [x, y] => some ⟨x, y⟩
  | _ => none
def dT3 : D → Option (T3 D D D)
  | .tuple [x, y, z] => some ⟨x, y, z⟩
  | _ => none
theorem dInt_eq {d : D} {i : Int} (h : dInt d = some i) : d = .int i := by
  cases d <;> simp [dInt] at h
  rw [h]
theorem dStr_eq {d : D} {i : Str} (h : dStr d = some i) : d = .str i := by
  cases d <;> simp [dStr] at h
  rw [h]
theorem map_encId (xs : List D) : xs.map (enc : D → D) = xs := List.map_id' xs
theorem dList_eq {d : D} {i : List D} (h : dList d = some i) : d = .list (i.map enc) := by
  cases d <;> simp [dList] at h
  rw [h, map_encId]
section
variable {f : ES} {a a1 : AE} {d : D}
end
end E
/-! X17: own lists that may be unset; tuples added, a part perhaps empty; `in` by a function of its own. -/
namespace E
open PySem PySem.Spec PyProof.Rows L2
/-- a slot that holds an own list, or nothing yet -/
def olA {α : Type} [Enc α] : Option (List α) → AV
  | none => .un
  | some xs => .ow (.lv (xs.map enc))
def memB {τ : Type} [DecidableEq τ] (x : τ) (xs : List τ) : Bool := decide (x ∈ xs)
end E
/-! X18: exceptions: their rules over what is known of the slots. -/
namespace E
open PySem PySem.Spec PyProof.Rows L2

/-- the result of a def that may raise -/
def rvX {α : Type} (V : α → Rv) : Except Ex α → Rv
  | .ok v => V v
  | .error e => .exn e
def exE {α β : Type} (h : Ex → Option β) (k : α → Option β) : Except Ex α → Option β
  | .ok v => k v
  | .error e => h e
def fldX (bk : List String) (f : Str) : Ex → Option D
  | ⟨c, (g, d) :: _⟩ => if g = f ∧ fldOf c = f ∧ bk.contains c = true then some d else none
  | _ => none
/-- an expression that raises -/
def XJ (f : ES) (a : AE) (x : Ex) (a' : AE) : Prop := ∀ s, Abs s a → ∃ s', f s = .exc x s' ∧ Abs s' a'
section
variable {s s' : S} {a a' a1 a2 a3 : AE} {r : R} {v v1 v2 v3 : RV} {f g f1 f2 f3 : ES} {t : AS} {fa fk : AS} {vs ks : List RV} {d d1 d2 d3 : D} {u u1 u2 : TS'} {b b1 b2 : Bool} {st S1 S2 S3 : SS} {β γ τ : Type} {m m1 m2 : Option β} {o o1 : β → Out} {x : Ex} {rs bk ys : List String}
/-! ### raise -/
/-! ### calls of what may raise -/
def noIoA (L : List PA) : Bool := L.all fun p => p.ioc.isNone
/-! ### try -/
def TJ (body : SS) (a : AE) (m : Option (Except Ex Unit)) : Prop := ∀ b, m = some b → ∀ s, Abs s a → ∃ s', Abs s' a ∧ (match b with | .ok _ => body s = .ok .nx s' | .error e => body s = .exc e s')
/-- the clauses, from an exception on -/
def clS (l : List Clause) (x : Ex) : SS := clauses l x
def suS (c : Clause) (x : Ex) : SS := fun s => endX c.sl (c.body (bindX c.sl x s.tr))
def AE.out (a : AE) (i : Nat) : AE := ⟨a.sl.set i .un, a.io⟩
end
end E
/-! X19: data of any kind that was found to be of a type. -/
namespace E
open PySem PySem.Spec PyProof.Rows L2
class Dcd (α : Type) [Enc α] where
  dec : D → Option α
  ok : ∀ {d : D} {a : α}, dec d = some a → d = enc a
  en : ∀ a : α, dec (enc a) = some a
def dec {α : Type} [Enc α] [Dcd α] (d : D) : Option α := Dcd.dec d
section
variable {α β γ δ ε : Type} [Enc α] [Enc β] [Enc γ] [Enc δ] [Enc ε] [Dcd α] [Dcd β] [Dcd γ] [Dcd δ] [Dcd ε]
theorem dec_eq {d : D} {a : α} (h : dec d = some a) : d = enc a := Dcd.ok h
theorem dec_enc (a : α) : dec (enc a) = some a := Dcd.en a
instance : Dcd Int := ⟨dInt, fun h => dInt_eq h, fun _ => rfl⟩
instance : Dcd Str := ⟨dStr, fun h => dStr_eq h, fun _ => rfl⟩
instance : Dcd D := ⟨some, fun h => (Option.some.inj h), fun _ => rfl⟩
def decL : List D → Option (List α)
  | [] => some []
  | d :: ds => (dec d).bind fun x => (decL ds).bind fun xs => some (x :: xs)
theorem decL_eq : ∀ {ds : List D} {xs : List α}, decL ds = some xs → ds = xs.map enc
  | [], _, h => by cases h; rfl
  | d :: ds, xs, h => by
    unfold decL at h
    cases h1 : (dec d : Option α) with
    | none => rw [h1] at h; cases h
    | some x =>
      rw [h1, Option.bind_some] at h
      cases h2 : (decL ds : Option (List α)) with
      | none => rw [h2] at h; cases h
      | some ys =>
        rw [h2, Option.bind_some] at h
        cases h
        rw [List.map_cons, ← dec_eq h1, ← decL_eq h2]
theorem decL_enc : ∀ xs : List α, decL (xs.map enc) = some xs
  | [] => rfl
  | x :: xs => by rw [List.map_cons, decL, dec_enc, Option.bind_some, decL_enc xs]; rfl
theorem decLs_eq {d : D} {a : List α} (h : (dList d).bind decL = some a) : d = enc a := by
  cases h1 : dList d with
  | none => rw [h1] at h; cases h
  | some x =>
    rw [h1, Option.bind_some] at h
    have e := dList_eq h1
    rw [map_encId] at e
    rw [e, decL_eq h]; rfl
instance : Dcd (List α) := ⟨fun d => (dList d).bind decL, fun h => decLs_eq h, fun a => by show (dList (.list (a.map enc))).bind decL = _; simp only [dList, Option.bind_some, decL_enc]⟩
def decT2 (d : D) : Option (T2 α β) := match d with
  | .tuple [x, y] => (dec x : Option α).bind fun a => (dec y : Option β).bind fun b => some ⟨a, b⟩
  | _ => none
theorem decT2_eq {d : D} {r : T2 α β} (h : decT2 d = some r) : d = enc r := by
  unfold decT2 at h
  split at h
  · rename_i x y
    cases h1 : (dec x : Option α) with
    | none => simp only [h1, Option.bind_some, Option.bind_none] at h; cases h
    | some a =>
      cases h2 : (dec y : Option β) with
      | none => simp only [h1, h2, Option.bind_some, Option.bind_none] at h; cases h
      | some b =>
        simp only [h1, h2, Option.bind_some] at h
        cases h
        rw [dec_eq h1, dec_eq h2]; rfl
  · cases h
theorem decT2_enc (r : T2 α β) : decT2 (enc r) = some r := by
  cases r
  show ((dec (enc _) : Option α).bind fun a => (dec (enc _) : Option β).bind fun b => some (⟨a, b⟩ : T2 α β)) = _
  simp only [dec_enc, Option.bind_some]
instance : Dcd (T2 α β) := ⟨decT2, fun h => decT2_eq h, decT2_enc⟩
def decT3 (d : D) : Option (T3 α β γ) := match d with
  | .tuple [x, y, z] => (dec x : Option α).bind fun a => (dec y : Option β).bind fun b => (dec z : Option γ).bind fun c => some ⟨a, b, c⟩
  | _ => none
theorem decT3_eq {d : D} {r : T3 α β γ} (h : decT3 d = some r) : d = enc r := by
  unfold decT3 at h
  split at h
  · rename_i x y z
    cases h1 : (dec x : Option α) with
    | none => simp only [h1, Option.bind_some, Option.bind_none] at h; cases h
    | some a =>
      cases h2 : (dec y : Option β) with
      | none => simp only [h1, h2, Option.bind_some, Option.bind_none] at h; cases h
      | some b =>
        cases h3 : (dec z : Option γ) with
        | none => simp only [h1, h2, h3, Option.bind_some, Option.bind_none] at h; cases h
        | some c =>
          simp only [h1, h2, h3, Option.bind_some] at h
          cases h
          rw [dec_eq h1, dec_eq h2, dec_eq h3]; rfl
  · cases h
theorem decT3_enc (r : T3 α β γ) : decT3 (enc r) = some r := by
  cases r
  show ((dec (enc _) : Option α).bind fun a => (dec (enc _) : Option β).bind fun b => (dec (enc _) : Option γ).bind fun c => some (⟨a, b, c⟩ : T3 α β γ)) = _
  simp only [dec_enc, Option.bind_some]
instance : Dcd (T3 α β γ) := ⟨decT3, fun h => decT3_eq h, decT3_enc⟩
def decT5 (d : D) : Option (T5 α β γ δ ε) := match d with
  | .tuple [x, y, z, u, v] => (dec x : Option α).bind fun a => (dec y : Option β).bind fun b => (dec z : Option γ).bind fun c => (dec u : Option δ).bind fun d => (dec v : Option ε).bind fun e => some ⟨a, b, c, d, e⟩
  | _ => none
theorem decT5_eq {d : D} {r : T5 α β γ δ ε} (h : decT5 d = some r) : d = enc r := by
  unfold decT5 at h
  split at h
  · rename_i x y z u v
    cases h1 : (dec x : Option α) with
    | none => simp only [h1, Option.bind_some, Option.bind_none] at h; cases h
    | some a =>
      cases h2 : (dec y : Option β) with
      | none => simp only [h1, h2, Option.bind_some, Option.bind_none] at h; cases h
      | some b =>
        cases h3 : (dec z : Option γ) with
        | none => simp only [h1, h2, h3, Option.bind_some, Option.bind_none] at h; cases h
        | some c =>
          cases h4 : (dec u : Option δ) with
          | none => simp only [h1, h2, h3, h4, Option.bind_some, Option.bind_none] at h; cases h
          | some d =>
            cases h5 : (dec v : Option ε) with
            | none => simp only [h1, h2, h3, h4, h5, Option.bind_some, Option.bind_none] at h; cases h
            | some e =>
              simp only [h1, h2, h3, h4, h5, Option.bind_some] at h
              cases h
              rw [dec_eq h1, dec_eq h2, dec_eq h3, dec_eq h4, dec_eq h5]; rfl
  · cases h
theorem decT5_enc (r : T5 α β γ δ ε) : decT5 (enc r) = some r := by
  cases r
  show ((dec (enc _) : Option α).bind fun a => (dec (enc _) : Option β).bind fun b => (dec (enc _) : Option γ).bind fun c => (dec (enc _) : Option δ).bind fun d => (dec (enc _) : Option ε).bind fun e => some (⟨a, b, c, d, e⟩ : T5 α β γ δ ε)) = _
  simp only [dec_enc, Option.bind_some]
instance : Dcd (T5 α β γ δ ε) := ⟨decT5, fun h => decT5_eq h, decT5_enc⟩
end
def okO {α : Type} : Option (Except Ex α) → Option α
  | some (.ok v) => some v
  | _ => none
end E
/-! X20: lists whose items are taken as of another type. -/
namespace E
open PySem PySem.Spec PyProof.Rows L2
def dL2 {α : Type} : List α → Option (T2 α α)
  | [x, y] => some ⟨x, y⟩
  | _ => none
end E
/-! X21: a try suite whose body sets one name. -/
namespace E
open PySem PySem.Spec PyProof.Rows L2
section
variable {α β γ : Type} {st S2 : SS} {a : AE} {E : α → AE} {o : β → Out} {rs : List String}
def TJA (st : SS) (a : AE) (E : α → AE) (m : Option (Except Ex α)) : Prop := ∀ b, m = some b → ∀ s, Abs s a → ∃ s', (match b with | .ok v => Abs s' (E v) ∧ st s = .ok .nx s' | .error e => Abs s' a ∧ st s = .exc e s')
end
end E
/-! X36: the typed words for texts taken apart. -/
namespace E
open PySem PySem.Spec PyProof.Rows L2
def chS (c : Nat) : Str := ⟨#[c]⟩
def sAt (z : Str) (i : Int) : Option Str := (L2.atI z.cps.toList i).map chS
def sgns (z : Str) : List Str := z.cps.toList.map chS
def inOne (x y : Str) : Option Bool := match x.cps.toList with
  | [c] => some (decide (c ∈ y.cps.toList))
  | _ => none
def mulT (x : Str) (n : Int) : Option Str := if n = 0 then some Str.empty else if n = 1 then some x else if 2 ≤ n ∧ n ≤ 1000 ∧ 1 ≤ x.length ∧ x.length ≤ 1000 ∧ (repS x n).length ≤ sizeLine then some (repS x n) else none
section
variable {f f1 f2 o : ES} {a a1 a2 a3 : AE} {v v1 v2 : RV}
theorem rd_ixS {z x : Str} {i : Int} (hz : z.length ≤ sizeLine) (h : sAt z i = some x) : Rd2 idxR (.str z) (.int i) (.str x) := fun r1 r2 s h1 h2 => by
  unfold sAt at h
  obtain ⟨c, hc, rfl⟩ := Option.map_eq_some_iff.mp h
  unfold idxR
  rw [h1, h2]
  simp only
  rw [if_pos hz, hc]
  rfl
theorem rd_inSg {x y : Str} {b : Bool} (h : inOne x y = some b) : Rd2 (inTS false) (.str x) (.str y) (.bool b) := fun r1 r2 s h1 h2 => by
  unfold inOne at h
  unfold inTS
  rw [h1, h2]
  simp only
  split at h
  · rename_i c ec
    try rw [ec]
    have : decide (c ∈ y.cps.toList) = b := Option.some.inj h
    simp only [Bool.false_eq_true, if_false, this]
  · cases h
theorem rd_ninSg {x y : Str} {b : Bool} (h : inOne x y = some b) : Rd2 (inTS true) (.str x) (.str y) (.bool (!b)) := fun r1 r2 s h1 h2 => by
  unfold inOne at h
  unfold inTS
  rw [h1, h2]
  simp only
  split at h
  · rename_i c ec
    try rw [ec]
    have : decide (c ∈ y.cps.toList) = b := Option.some.inj h
    simp only [if_true, this]
  · cases h
theorem rd_mulT {x y : Str} {n : Int} (h : mulT x n = some y) : Rd2 mulST (.str x) (.int n) (.str y) := fun r1 r2 s h1 h2 => by
  unfold mulT at h
  unfold mulST
  rw [h1, h2]
  simp only
  by_cases c : n = 0
  · rw [if_pos c] at h ⊢; cases h; rfl
  · rw [if_neg c] at h ⊢
    by_cases d : n = 1
    · rw [if_pos d] at h ⊢; cases h; rfl
    · rw [if_neg d] at h ⊢
      split at h
      · rename_i c; rw [if_pos c]; cases h; rfl
      · cases h
theorem o_intT {z : Str} {n : Int} (hz : z.length ≤ 640) (h : PySem.intText? z = some n) : ∀ s, intT (.str z) s = .ok (.sh (.int n)) s := fun s => by
  unfold intT
  simp only
  rw [h]
  exact if_pos hz
theorem j_sliS {z : Str} {l k : OS} {lo hi : Option Int} (h : J f a v a1) (hl : JO l a1 lo a2) (hh : JO k a2 hi a3) (q : a3.val v = some (.str z)) (hz : z.length ≤ sizeLine) : J (sliS f l k) a (.da (.str (L2.cutS z lo hi))) a3 := fun s hs => by
  obtain ⟨r, s1, e1, p1, n1, q1, k1⟩ := h s hs
  obtain ⟨s2, e2, q2, k2⟩ := hl s1 q1
  obtain ⟨s3, e3, q3, k3⟩ := hh s2 q2
  refine ⟨.sh (.str (L2.cutS z lo hi)), s3, ?_, rfl, fun _ e => (by cases e), q3, (k1.trans k2).trans k3⟩
  unfold sliS sliR
  rw [e1, Res.bind_ok, e2, Res.bind_ok, e3, Res.bind_ok, look_of q3 ((p1.fr k2).fr k3) q]
  exact if_pos hz
theorem ji_str {z : Str} (h : J f a v a1) (q : a1.val v = some (.str z)) : JI (strI f) a ((sgns z).map enc) [] a1 := fun s hs => by
  obtain ⟨r, s1, e1, p1, n1, q1, k1⟩ := h s hs
  refine ⟨s1, ?_, q1, k1⟩
  unfold strI
  rw [e1, Res.bind_ok, look_of q1 p1 q]
  simp only
  have : signs z = (sgns z).map enc := by unfold signs sgns; rw [List.map_map]; rfl
  rw [this]
  rfl
theorem j_split {sep z : Str} (ho : J o a (.da (.str z)) a1) (hf : J f a1 v a2) (q : a2.val v = some (.str sep)) (hz : (sep.length == 0) = false ∧ z.length + 2 ≤ sizeLine) : J (methT splitR o (consA f nilA)) a (.te ((Txt.split z sep).map enc)) a2 := fun s hs => by
  obtain ⟨r1, s1, e1, p1, n1, q1, k1⟩ := ho s hs
  obtain ⟨r2, s2, e2, p2, n2, q2, k2⟩ := hf s1 q1
  cases (show r1 = .sh (.str z) from p1)
  obtain ⟨z1, z2, z3⟩ := new_ok q2 ((Txt.split z sep).map PyData.str)
  refine ⟨.own s2.ce.length, _, ?_, z1, fun c e => (by cases e; exact .inr (Nat.le_trans k1.le k2.le)), z2, (k1.trans k2).trans z3⟩
  unfold methT
  rw [e1, Res.bind_ok]
  show (if true = true then _ else _) = _
  rw [if_pos rfl]
  unfold consA nilA
  rw [e2, Res.bind_ok]
  show splitR (.sh (.str z)) [r2] s2 = _
  have lk := look_of q2 p2 q
  unfold splitR
  show (match s2.look r2 with | some (.str b) => _ | _ => _) = _
  rw [lk]
  exact if_pos hz
theorem j_notTab {tab : List (Str × Str)} {z : Str} (h : J f a v a1) (q : a1.val v = some (.str z)) : J (notTab tab f) a (.da (.bool (!(tabGet tab z).isSome))) a1 := fun s hs => by
  obtain ⟨r, s1, e1, p1, n1, q1, k1⟩ := h s hs
  refine ⟨.sh (.bool (!(tabGet tab z).isSome)), s1, ?_, rfl, fun _ e => (by cases e), q1, k1⟩
  unfold notTab
  rw [e1, Res.bind_ok, look_of q1 p1 q]
theorem j_ixTab {tab : List (Str × Str)} {z x : Str} (h : J f a v a1) (q : a1.val v = some (.str z)) (hx : tabGet tab z = some x) : J (ixTab tab f) a (.da (.str x)) a1 := fun s hs => by
  obtain ⟨r, s1, e1, p1, n1, q1, k1⟩ := h s hs
  refine ⟨.sh (.str x), s1, ?_, rfl, fun _ e => (by cases e), q1, k1⟩
  unfold ixTab
  rw [e1, Res.bind_ok, look_of q1 p1 q]
  simp only
  rw [hx]
end
end E
/-! X37: count and index of texts; a try suite whose ways set one name. -/
namespace E
open PySem PySem.Spec PyProof.Rows L2
section
variable {f o : ES} {a a1 a2 : AE} {v : RV} {α : Type} {E : α → AE}
end
end E
/-! Y0: plain laws: what a computation gives; what may be shown; the ranges. -/
namespace E
open PySem PySem.Spec PyProof.Rows L2
def Ok {α : Type} (m : Option α) (P : α → Prop) : Prop := ∃ a, m = some a ∧ P a
section
variable {α β σ τ ρ : Type} {m n : Option α} {P Q : α → Prop}
theorem ok_some {a : α} (h : P a) : Ok (some a) P := ⟨a, rfl, h⟩
theorem ok_bind {f : α → Option β} {R : β → Prop} (h : Ok m Q) (k : ∀ a, Q a → Ok (f a) R) : Ok (m.bind f) R := by
  obtain ⟨a, e, q⟩ := h
  obtain ⟨b, e2, r⟩ := k a q
  exact ⟨b, by rw [e]; exact e2, r⟩
theorem ok_g {C : Prop} [Decidable C] (hc : C) (h : Ok m P) : Ok (if C then m else none) P := by rw [if_pos hc]; exact h
theorem ok_if {b : Bool} (h1 : b = true → Ok m P) (h2 : b = false → Ok n P) : Ok (if b = true then m else n) P := by
  cases b
  · exact h2 rfl
  · exact h1 rfl
theorem ok_mono (h : Ok m P) (k : ∀ a, P a → Q a) : Ok m Q := let ⟨a, e, p⟩ := h; ⟨a, e, k a p⟩
theorem ok_eq {a : α} (h : Ok m (fun x => x = a)) : m = some a := by obtain ⟨b, e, rfl⟩ := h; exact e
/-- a loop: I tells of the items that are done -/
theorem ok_loopM {step : σ → τ → Option σ} (I : List τ → σ → Prop) : ∀ (ys done : List τ) (x : σ), I done x → (∀ d x y, d ++ [y] <+: done ++ ys → I d x → Ok (step x y) (I (d ++ [y]))) → Ok (loopM step ys x) (I (done ++ ys))
  | [], done, x, h, _ => ⟨x, rfl, by rw [List.append_nil]; exact h⟩
  | y :: ys, done, x, h, hs => by
    unfold loopM
    refine ok_bind (hs done x y ⟨ys, by simp⟩ h) fun x' hx' => ?_
    have := ok_loopM I ys (done ++ [y]) x' hx' (fun d x z hd => hs d x z (by rw [List.append_assoc] at hd; exact hd))
    rw [List.append_assoc] at this
    exact this
theorem ok_loopM' {step : σ → τ → Option σ} {ys : List τ} {x : σ} (I : List τ → σ → Prop) (h0 : I [] x) (hs : ∀ d x y, d ++ [y] <+: ys → I d x → Ok (step x y) (I (d ++ [y]))) : Ok (loopM step ys x) (I ys) := by
  have := ok_loopM I ys [] x h0 (by simpa using hs)
  simpa using this
/-- a loop that never leaves early -/
theorem ok_loopF {step : σ → τ → Option (Fw σ ρ)} (I : List τ → σ → Prop) : ∀ (ys done : List τ) (x : σ), I done x → (∀ d x y, d ++ [y] <+: done ++ ys → I d x → Ok (step x y) (fun w => ∃ x', w = .nx x' ∧ I (d ++ [y]) x')) → Ok (loopF step ys x) (fun w => ∃ x', w = .go x' ∧ I (done ++ ys) x')
  | [], done, x, h, _ => ⟨_, rfl, x, rfl, by rw [List.append_nil]; exact h⟩
  | y :: ys, done, x, h, hs => by
    unfold loopF
    refine ok_bind (hs done x y ⟨ys, by simp⟩ h) fun w hw => ?_
    obtain ⟨x', rfl, hx'⟩ := hw
    have := ok_loopF I ys (done ++ [y]) x' hx' (fun d x z hd => hs d x z (by rw [List.append_assoc] at hd; exact hd))
    rw [List.append_assoc] at this
    exact this
theorem ok_loopF' {step : σ → τ → Option (Fw σ ρ)} {ys : List τ} {x : σ} (I : List τ → σ → Prop) (h0 : I [] x) (hs : ∀ d x y, d ++ [y] <+: ys → I d x → Ok (step x y) (fun w => ∃ x', w = .nx x' ∧ I (d ++ [y]) x')) : Ok (loopF step ys x) (fun w => ∃ x', w = .go x' ∧ I ys x') := by
  have := ok_loopF I ys [] x h0 (by simpa using hs)
  simpa using this
/-- .. with nothing carried -/
theorem ok_all {step : Unit → τ → Option (Fw Unit ρ)} {ys : List τ} (hs : ∀ y ∈ ys, Ok (step () y) (fun w => w = .nx ())) : Ok (loopF step ys ()) (fun w => w = .go ()) :=
  ok_mono (ok_loopF' (fun _ _ => True) trivial fun d x y hd _ => ok_mono (hs y (hd.subset (by simp))) fun w hw => ⟨(), hw, trivial⟩) fun w ⟨x, hx, _⟩ => hx
theorem compB_eq {step : τ → Option (List β)} {f : τ → List β} : ∀ {ys : List τ}, (∀ y ∈ ys, step y = some (f y)) → compB step ys = some (ys.flatMap f)
  | [], _ => rfl
  | y :: ys, h => by
    unfold compB
    rw [h y List.mem_cons_self, compB_eq fun z hz => h z (List.mem_cons_of_mem _ hz)]
    rfl
end
theorem mem_rng {lo : Int} {n : Nat} {x : Int} : x ∈ rngL lo 1 n ↔ lo ≤ x ∧ x < lo + n := by
  unfold rngL
  rw [List.mem_map]
  constructor
  · rintro ⟨i, hi, rfl⟩
    have := List.mem_range.mp hi
    omega
  · intro ⟨h1, h2⟩
    exact ⟨(x - lo).toNat, List.mem_range.mpr (by omega), by omega⟩
theorem rng_length {lo c : Int} {n : Nat} : (rngL lo c n).length = n := by simp [rngL]
theorem sz_lt' {n : Nat} (h : n ≤ 1000000) : n < sizeLine := Nat.lt_of_le_of_lt h (by decide)
theorem sm62 {i : Int} (h1 : -1000000000000 ≤ i) (h2 : i ≤ 1000000000000) : small62 i := ⟨by omega, by omega⟩
theorem log_lt {x : Int} {k : Nat} (h : x.natAbs < 2 ^ (k + 1)) : x.natAbs.log2 ≤ k := by
  by_cases h0 : x.natAbs = 0
  · rw [h0]; simp
  · have := (Nat.log2_lt h0).mpr h
    omega
/-- ints of at most 1000 bits -/
def Sm (x : Int) : Prop := x.natAbs < 2 ^ 1000
theorem sm_log {x : Int} (h : Sm x) : x.natAbs.log2 ≤ 999 := log_lt (k := 999) h
theorem cMul_of {x y : Int} (hx : Sm x) (hy : Sm y) : cMul x y := by
  have := sm_log hx
  have := sm_log hy
  unfold cMul
  omega
theorem cDiv_of {x y : Int} (h : 0 < y) (hy : Sm y) : cDiv x y := ⟨h, by have := sm_log hy; omega⟩
theorem cPow3_of {x : Int} (hx : Sm x) : cPow x 3 := ⟨by decide, by have := sm_log hx; show (x.natAbs.log2 + 1) * 3 ≤ 1000000; omega⟩
/-- between bounds of 10 ^ 300 -/
theorem sm_of {x : Int} (h1 : -(10 ^ 300) ≤ x) (h2 : x ≤ 10 ^ 300) : Sm x := by
  unfold Sm
  have h3 : (10 : Nat) ^ 300 < 2 ^ 1000 := by decide +kernel
  have h4 : x.natAbs ≤ 10 ^ 300 := by
    have e : ((10 : Int) ^ 300) = ((10 ^ 300 : Nat) : Int) := by norm_cast
    rw [e] at h1 h2
    generalize (10 : Nat) ^ 300 = q at h1 h2 ⊢
    omega
  exact Nat.lt_of_le_of_lt h4 h3
theorem ok_at {τ : Type} {xs : List τ} {i : Int} (h1 : 0 ≤ i) (h2 : i < (xs.length : Int)) : Ok (L2.atI xs i) (fun x => x ∈ xs) := by
  have : L2.atI xs i = some (xs[i.toNat]'(by omega)) := by
    unfold L2.atI ixN
    rw [if_pos h1, if_pos h2]
    simp
  exact ⟨_, this, List.getElem_mem _⟩
/-! ### what may be shown -/
structure Fit (d : D) (k p : Nat) : Prop where
  sh : d.showable = true
  dp : d.depth ≤ p
  ls : d.leavesShort 1001 = true
  bk : d.bulk ≤ k
structure FitL (ds : List D) (k p : Nat) : Prop where
  sh : PyData.showableAll ds = true
  dp : PyData.depthAll ds ≤ p
  ls : PyData.leavesShortAll 1001 ds = true
  bk : PyData.bulkAll ds ≤ k
theorem shw_of {d : D} {k p : Nat} (h : Fit d k p) (hk : k ≤ 16000 := by decide) (hp : p ≤ 50 := by decide) : shwOk d := by
  refine ⟨h.sh, Nat.le_trans h.dp hp, ?_⟩
  have := PyData.shown_le_bulk 1001 (by decide) d h.ls
  have b := h.bk
  have : d.shown.length ≤ 16100000 := by omega
  exact Nat.le_trans this (by decide)
theorem fit_int {i : Int} (h : Sm i) : Fit (.int i) 0 0 := by
  have l := sm_log h
  refine ⟨by simp only [PyData.showable]; exact decide_eq_true (by omega), Nat.le_refl _, ?_, Nat.le_refl _⟩
  simp only [PyData.leavesShort]
  refine decide_eq_true ?_
  have := int_text_length_le (a := i) (k := 1000) (by decide) (by omega)
  show (Str.ofString (toString i)).length ≤ 1001
  rw [PySem.ofString_length]
  exact this
theorem fitl_nil : FitL [] 0 0 := ⟨rfl, Nat.le_refl _, rfl, Nat.le_refl _⟩
theorem fitl_cons {d : D} {ds : List D} {k l p q : Nat} (h : Fit d k p) (t : FitL ds l q) : FitL (d :: ds) (k + 1 + l) (max p q) := by
  refine ⟨?_, ?_, ?_, ?_⟩
  · simp only [PyData.showableAll, h.sh, t.sh, Bool.and_self]
  · simp only [PyData.depthAll]; have := h.dp; have := t.dp; omega
  · simp only [PyData.leavesShortAll, h.ls, t.ls, Bool.and_self]
  · simp only [PyData.bulkAll]; have := h.bk; have := t.bk; omega
theorem fit_tup {ds : List D} {k p : Nat} (h : FitL ds k p) : Fit (.tuple ds) k (p + 1) := ⟨by simp only [PyData.showable]; exact h.sh, by simp only [PyData.depth]; have := h.dp; omega, by simp only [PyData.leavesShort]; exact h.ls, by simp only [PyData.bulk]; exact h.bk⟩
theorem fit_list {ds : List D} {k p : Nat} (h : FitL ds k p) : Fit (.list ds) k (p + 1) := ⟨by simp only [PyData.showable]; exact h.sh, by simp only [PyData.depth]; have := h.dp; omega, by simp only [PyData.leavesShort]; exact h.ls, by simp only [PyData.bulk]; exact h.bk⟩
theorem fitl_map {α : Type} {f : α → D} {k p : Nat} : ∀ {xs : List α}, (∀ x ∈ xs, Fit (f x) k p) → FitL (xs.map f) ((k + 1) * xs.length) p
  | [], _ => ⟨rfl, Nat.zero_le _, rfl, Nat.le_refl _⟩
  | x :: xs, h => by
    have a := h x List.mem_cons_self
    have b := fitl_map (f := f) (k := k) (p := p) (xs := xs) fun y hy => h y (List.mem_cons_of_mem _ hy)
    have c := fitl_cons a b
    refine ⟨c.sh, Nat.le_trans c.dp (by omega), c.ls, Nat.le_trans c.bk ?_⟩
    rw [List.length_cons, Nat.mul_succ]; omega
theorem fit_mono {d : D} {k l p q : Nat} (h : Fit d k p) (h1 : k ≤ l) (h2 : p ≤ q) : Fit d l q := ⟨h.sh, Nat.le_trans h.dp h2, h.ls, Nat.le_trans h.bk h1⟩
theorem fit_pair {x y : Int} (hx : Sm x) (hy : Sm y) : Fit (enc (⟨x, y⟩ : T2 Int Int)) 2 1 := fit_tup (fitl_cons (fit_int hx) (fitl_cons (fit_int hy) fitl_nil))
/-! ### shapes -/
def par (i : Nat) : Str := if i = 0 then "none" else if i = 1 then "even" else "odd"
structure ShpOk (f : T3 Int Str Int) : Prop where
  b1 : 1 ≤ f.a
  b9 : f.a ≤ 9
  p : f.b ∈ ([("none" : Str), ("even" : Str), ("odd" : Str)] : List Str)
  t : f.c = 1 ∨ f.c = 2
/-- a parity bit more, or none -/
def pb (f : T3 Int Str Int) : Int := if f.b = "none" then 0 else 1
structure RcvOk (r : T3 Int Int Int) : Prop where
  g : 1 ≤ r.a
  w : 0 ≤ r.b
  s : 1 ≤ r.c
end E
/-! Y1: frames, and the changes of levels, as plain lists. -/
namespace E
open PySem PySem.Spec PyProof.Rows L2
def bitsI (n : Nat) (x : Int) : List Int := (List.range n).map fun i => x / 2 ^ i % 2
/-- the parity bit, or none -/
def pbI (f : T3 Int Str Int) (x : Int) : List Int := if f.b = "none" then [] else if f.b = "even" then [(bitsI f.a.toNat x).sum % 2] else [1 - (bitsI f.a.toNat x).sum % 2]
def frm (f : T3 Int Str Int) (x : Int) : List Int := [0] ++ (bitsI f.a.toNat x ++ (pbI f x ++ List.replicate f.c.toNat 1))
/-- the ticks at which the level becomes another -/
def chg : Int → List (Int × Int) → List Int
  | _, [] => []
  | l, (t, v) :: r => if v = l then chg l r else t :: chg v r
theorem pre_len {τ : Type} {d : List τ} {y : τ} {ys : List τ} (h : d ++ [y] <+: ys) : d.length + 1 ≤ ys.length := by
  have := h.length_le
  simpa using this
theorem pre_get {τ : Type} {d : List τ} {y : τ} {ys : List τ} (h : d ++ [y] <+: ys) : ys[d.length]? = some y := by
  obtain ⟨z, rfl⟩ := h
  rw [List.append_assoc, List.getElem?_append_right (Nat.le_refl _)]
  simp
theorem pre_rng {d : List Int} {y lo : Int} {n : Nat} (h : d ++ [y] <+: rngL lo 1 n) : y = lo + d.length ∧ d.length < n := by
  have h1 := pre_get h
  have h2 := pre_len h
  rw [rng_length] at h2
  unfold rngL at h1
  rw [List.getElem?_map, List.getElem?_range (by omega)] at h1
  have e : lo + (d.length : Int) * 1 = y := Option.some.inj h1
  omega
/-- an enumeration, as a list -/
theorem enumL_get {τ : Type} : ∀ (k : Int) (xs : List τ) (i : Nat), (enumL k xs)[i]? = (xs[i]?).map fun x => ⟨k + (i : Int), x⟩
  | _, [], i => by simp [enumL]
  | k, x :: xs, 0 => by simp [enumL]
  | k, x :: xs, i + 1 => by
    show (enumL (k + 1) xs)[i]? = (xs[i]?).map _
    rw [enumL_get (k + 1) xs i]
    congr 1
    funext y
    congr 1
    omega
end E
/-! Y2: the walk of a receiver along a line, as plain functions. -/
namespace E
open PySem PySem.Spec PyProof.Rows L2
/-- receivers with numbers of at most some digits -/
structure RcvSm (r : T3 Int Int Int) : Prop extends RcvOk r where
  g9 : r.a ≤ 10 ^ 60
  w9 : r.b ≤ 10 ^ 60
  s9 : r.c ≤ 10 ^ 60
/-- ticks that only rise -/
def Rises (xs : List Int) : Prop := xs.Pairwise (· < ·)
/-- how many changes are not behind a tick -/
def cntT (xs : List Int) (t : Int) : Nat := (xs.takeWhile fun x => decide (x ≤ t)).length
def lvl (xs : List Int) (t : Int) : Int := ((cntT xs t : Int) - 1) % 2
def lookAt (r : T3 Int Int Int) (st k : Int) : Int := st + r.a * (r.b + r.c * k)
def fsz (f : T3 Int Str Int) : Int := ((1 + f.a) + (if (!decide (f.b = ("none" : Str))) = true then 1 else 0 : Int)) + f.c
/-- a loop whose turns always end -/
def runT {σ τ ρ : Type} (step : σ → τ → Fw σ ρ) : List τ → σ → Lr σ ρ
  | [], x => .go x
  | y :: ys, x => match step x y with
    | .nx x' => runT step ys x'
    | .bk x' => .go x'
    | .rt r => .rt r
def rfStep (f : T3 Int Str Int) (r : T3 Int Int Int) (xs : List Int) (st : Int) (s : Int × Option Int × Bool) (k : Int) : Fw (Int × Option Int × Bool) (T3 Str Int (Option (T3 Int Str Int))) :=
  if k = 0 then if lvl xs (lookAt r st k) = 1 then .rt ⟨"idle", lookAt r st k, none⟩ else .nx (s.1, s.2.1, s.2.2 && decide (lvl xs (lookAt r st k) = 0))
  else if fsz f - f.c ≤ k then if lvl xs (lookAt r st k) = 0 then .rt ⟨"waiting", lookAt r st k, some ⟨st, if (s.2.2 && decide (lvl xs (lookAt r st k) = 0)) = true then "break" else "frame", s.1⟩⟩ else .nx (s.1, s.2.1, s.2.2 && decide (lvl xs (lookAt r st k) = 0))
  else if k ≤ f.a then .nx (s.1 + lvl xs (lookAt r st k) * 2 ^ (k - 1).toNat, s.2.1, s.2.2 && decide (lvl xs (lookAt r st k) = 0))
  else .nx (s.1, some (lvl xs (lookAt r st k)), s.2.2 && decide (lvl xs (lookAt r st k) = 0))
def wordOf (f : T3 Int Str Int) (n : Int) (p : Option Int) : Str := if p = (pbI f n).head? then "good" else "parity"
def rf (f : T3 Int Str Int) (r : T3 Int Int Int) (xs : List Int) (st : Int) : T3 Str Int (Option (T3 Int Str Int)) :=
  match runT (rfStep f r xs st) (rngL 0 1 (fsz f).toNat) (0, none, true) with
  | .rt x => x
  | .go s => ⟨"idle", lookAt r st (fsz f - 1), some ⟨st, wordOf f s.1 s.2.1, s.1⟩⟩
def lookF (r : T3 Int Int Int) (ph t : Int) : Int := if t ≤ ph then ph else ph + r.a * ((((t - ph) + r.a) - 1) / r.a)
abbrev WS := List (T3 Int Str Int) × Str × Int
def wkStep (f : T3 Int Str Int) (r : T3 Int Int Int) (ph : Int) (xs : List Int) (s : WS) : Fw WS (T2 (List (T3 Int Str Int)) (T2 Str (Option Int))) :=
  if s.2.1 = "idle" ∧ lvl xs s.2.2 = 0 then .nx (s.1 ++ (rf f r xs s.2.2).c.toList, (rf f r xs s.2.2).a, (rf f r xs s.2.2).b + r.a)
  else if s.2.1 = "waiting" ∧ lvl xs s.2.2 = 1 then .nx (s.1, "idle", s.2.2 + r.a)
  else match xs[cntT xs s.2.2]? with
    | none => .rt ⟨s.1, ⟨s.2.1, none⟩⟩
    | some x => .nx (s.1, s.2.1, lookF r ph x)
/-- the whole walk, so long as all looks stay between bounds -/
def runW {σ ρ : Type} (ok : σ → Bool) (step : σ → Fw σ ρ) : Nat → σ → Option ρ
  | 0, _ => none
  | n + 1, x => if ok x = true then (match step x with
    | .nx x' => runW ok step n x'
    | .bk _ => none
    | .rt r => some r) else none
def okW (M : Int) (s : WS) : Bool := decide (-M ≤ s.2.2 ∧ s.2.2 ≤ M ∧ s.1.length ≤ 10000)
end E
/-! Y3: levels of a line that is given by steps. -/
namespace E
open PySem PySem.Spec PyProof.Rows L2
/-- the level at a tick, by steps -/
def lvS : Int → List (Int × Int) → Int → Int
  | l, [], _ => l
  | l, p :: r, t => if p.1 ≤ t then lvS p.2 r t else l
def RisesS (st : List (Int × Int)) : Prop := st.Pairwise fun p q => p.1 < q.1
end E
/-! Y4: a frame that is seen level for level is read right. -/
namespace E
open PySem PySem.Spec PyProof.Rows L2
section
variable {f : T3 Int Str Int}
end
end E
/-! Y5: looks at safe lengths stay in their levels. -/
namespace E
open PySem PySem.Spec PyProof.Rows L2
end E
/-! Y6: the levels of a sending. -/
namespace E
open PySem PySem.Spec PyProof.Rows L2
section
variable {f : T3 Int Str Int} {L : Int}
/-- a frame's steps -/
def stF (f : T3 Int Str Int) (L : Int) (p : T2 Int Int) : List (Int × Int) := (enumL ((0 : Nat) : Int) (frm f p.b)).map fun y => (p.a + y.a * L, y.b)
/-- frames that do not overlap -/
def Spaced (f : T3 Int Str Int) (L : Int) (F : List (T2 Int Int)) : Prop := F.Pairwise fun p q => p.a + fsz f * L ≤ q.a
end
end E
/-! Y7: a frame of a sending, read at a safe length. -/
namespace E
open PySem PySem.Spec PyProof.Rows L2
/-- a length that a receiver reads -/
structure SafeL (f : T3 Int Str Int) (r : T3 Int Int Int) (L : Int) : Prop where
  g : 1 ≤ r.a
  w : 0 ≤ r.b
  s : 1 ≤ r.c
  c1 : r.a * (r.b + 1) ≤ L
  c2 : r.a * (r.b + r.c * (fsz f - 1) + 1) ≤ fsz f * L
  c3 : L * (fsz f - f.c) ≤ r.a * (r.b + r.c * (fsz f - f.c))
section
variable {f : T3 Int Str Int} {r : T3 Int Int Int} {L : Int}
theorem SafeL.L1 (h : SafeL f r L) : 1 ≤ L := by
  have := Int.mul_le_mul_of_nonneg_left (show 1 ≤ r.b + 1 by have := h.w; omega) (show 0 ≤ r.a by have := h.g; omega)
  have := h.c1; have := h.g
  omega
end
end E
/-! Y8: between the frames of a sending. -/
namespace E
open PySem PySem.Spec PyProof.Rows L2
section
variable {f : T3 Int Str Int} {r : T3 Int Int Int} {L : Int}
end
end E
/-! Y9: the next change between frames. -/
namespace E
open PySem PySem.Spec PyProof.Rows L2
section
variable {f : T3 Int Str Int} {r : T3 Int Int Int} {L : Int}
end
end E
/-! Y10: the walk over the frames of a sending. -/
namespace E
open PySem PySem.Spec PyProof.Rows L2
section
variable {f : T3 Int Str Int} {r : T3 Int Int Int} {L : Int}
/-- what is read of a frame -/
def rdF (r : T3 Int Int Int) (S : Int) (p : T2 Int Int) : T3 Int Str Int := ⟨p.a + (S - p.a) % r.a, "good", p.b⟩
end
end E
/-! Y11: slices, the lowest bit, what may be compared. -/
namespace E
open PySem PySem.Spec PyProof.Rows L2
end E
/-! Y12: each walk along a line ends. -/
namespace E
open PySem PySem.Spec PyProof.Rows L2
abbrev words4 : List Str := [("good" : Str), ("parity" : Str), ("break" : Str), ("frame" : Str)]
section
variable {f : T3 Int Str Int} {r : T3 Int Int Int} {xs : List Int}
/-- how many changes are left -/
def cR (xs : List Int) (l : Int) : Nat := xs.length - cntT xs l
def phi (xs : List Int) (s : WS) : Nat := if s.2.1 = "idle" then (if lvl xs s.2.2 = 1 then 4 * cR xs s.2.2 + 1 else 4 * cR xs s.2.2 + 2) else (if lvl xs s.2.2 = 1 then 4 * cR xs s.2.2 + 2 else 4 * cR xs s.2.2 + 1)
def psi (xs : List Int) (s : WS) : Nat := s.1.length + cR xs s.2.2 + (if s.2.1 = "idle" ∨ lvl xs s.2.2 = 1 then 1 else 0)
/-- what is known of what was found -/
def FdOk (xs : List (T3 Int Str Int)) : Prop := ∀ y ∈ xs, (-(10 ^ 200) ≤ y.a ∧ y.a ≤ 10 ^ 200) ∧ y.b ∈ words4 ∧ 0 ≤ y.c ∧ y.c ≤ 1024
/-- a bound for the ticks of a frame -/
def frmT (r : T3 Int Int Int) : Int := r.a * (r.b + r.c * 13) + r.a
end
end E
/-! Y13: bits by their levels; a loop whose turns are plain, with other results. -/
namespace E
open PySem PySem.Spec PyProof.Rows L2
/-- the number whose bits are given, from the least on -/
def bitsV : List Int → Int
  | [] => 0
  | x :: r => x + 2 * bitsV r
end E
/-! Y14: levels by index; a list of readings compared with itself; comprehensions that change lists. -/
namespace E
open PySem PySem.Spec PyProof.Rows L2
/-- the first n levels -/
def sl (g : Nat → Int) (n : Nat) : List Int := (List.range n).map g
section
variable {g : Nat → Int} {n a : Nat}
end
/-! ### the reader of levels, as plain functions -/
abbrev BS := T4 Int Int Int Bool
def idle0 : BS := ⟨0, 0, 0, true⟩
def wait0 : BS := ⟨-1, 0, 0, true⟩
def odd01 (f : T3 Int Str Int) : Int := if decide (f.b = ("odd" : Str)) = true then 1 else 0
/-- behind a level -/
def aft (f : T3 Int Str Int) (s : BS) (v : Int) : T2 BS (Option Str) :=
  if s.a = -1 then ⟨if v = 1 then idle0 else s, none⟩
  else if s.a = 0 then ⟨if v = 0 then ⟨1, 0, 0, true⟩ else idle0, none⟩
  else if s.a < fsz f - f.c then ⟨⟨s.a + 1, if f.b = "none" then s.b else (s.b + v) % 2, if s.a ≤ f.a then s.c + v * 2 ^ (s.a - 1).toNat else s.c, s.d && decide (v = 0)⟩, none⟩
  else if v = 0 then ⟨wait0, some (if (s.d && decide (v = 0)) = true then "break" else "frame")⟩
  else if s.a + 1 < fsz f then ⟨⟨s.a + 1, s.b, s.c, s.d && decide (v = 0)⟩, none⟩
  else ⟨idle0, some (if (decide (f.b = ("none" : Str)) || decide (s.b = odd01 f)) = true then "good" else "parity")⟩
abbrev MS := List (T3 Int Str Int) × BS × Int
def mst (f : T3 Int Str Int) (g : Nat → Int) (s : MS) (i : Nat) : MS :=
  (s.1 ++ (aft f s.2.1 (g i)).b.toList.map (fun w => (⟨if s.2.1.a = 0 then (i : Int) else s.2.2, w, s.2.1.c⟩ : T3 Int Str Int)), (aft f s.2.1 (g i)).a, if s.2.1.a = 0 then (i : Int) else s.2.2)
/-- from an index on, so many levels -/
def runM (f : T3 Int Str Int) (g : Nat → Int) : Nat → Nat → MS → MS
  | _, 0, s => s
  | k, n + 1, s => runM f g (k + 1) n (mst f g s k)
/-- a frame's reading: its word, its number, its last place -/
def oneS (f : T3 Int Str Int) (g : Nat → Int) : T3 Str Int Int :=
  let st := (fsz f - f.c).toNat
  let num := bitsV (((sl g st).drop 1).take f.a.toNat)
  if g st = 0 then ⟨if (1 : Int) ∈ sl g st then "frame" else "break", num, (st : Int)⟩
  else if f.c = 2 ∧ g (st + 1) = 0 then ⟨"frame", num, ((st + 1 : Nat) : Int)⟩
  else ⟨if (decide (f.b = ("none" : Str)) || decide (((sl g st).drop 1).sum % 2 = odd01 f)) = true then "good" else "parity", num, fsz f - 1⟩
section
variable {f : T3 Int Str Int} {g : Nat → Int}
/-- the state within a frame that has begun at k -/
def inF (f : T3 Int Str Int) (g : Nat → Int) (j : Nat) : BS := ⟨(j : Int), if f.b = "none" then 0 else ((sl g j).drop 1).sum % 2, bitsV (((sl g j).drop 1).take f.a.toNat), decide ((sl g j).sum = 0)⟩
end
end E
/-! Y15: what a receiver reads of a frame, by the levels that it sees. -/
namespace E
open PySem PySem.Spec PyProof.Rows L2
section
variable {f : T3 Int Str Int} {r : T3 Int Int Int} {xs : List Int}
/-- the level that the look with a place sees -/
def seenG (r : T3 Int Int Int) (xs : List Int) (st : Int) (k : Nat) : Int := lvl xs (lookAt r st (k : Int))
structure JG (f : T3 Int Str Int) (g : Nat → Int) (n : Nat) (s : Int × Option Int × Bool) : Prop where
  num : s.1 = bitsV (((sl g n).drop 1).take f.a.toNat)
  par : s.2.1 = if pb f = 1 ∧ f.a + 1 < (n : Int) then some (g (f.a.toNat + 1)) else none
  emp : s.2.2 = decide ((sl g n).sum = 0)
  first : 1 ≤ n → g 0 = 0
  stops : ∀ j : Nat, j < n → fsz f - f.c ≤ (j : Int) → g j = 1
end
end E
/-! Y16: the least turn at which a * k, taken modulo m, lies from lo to hi. -/
namespace P
open PySem PySem.Spec PyProof.Rows L2 E
def Lst (p : Int → Prop) : Option Int → Prop
  | none => ∀ k, 0 ≤ k → ¬ p k
  | some k => 0 ≤ k ∧ p k ∧ ∀ j, 0 ≤ j → j < k → ¬ p j
def InR (a m lo hi k : Int) : Prop := lo ≤ (a * k) % m ∧ (a * k) % m ≤ hi
end P
/-! Y17: sums of quotients, counts of turns. -/
namespace P
open PySem PySem.Spec PyProof.Rows L2 E
/-- the sum of (a * i + b) / m for i below c -/
def fs (m a b : Int) : Nat → Int
  | 0 => 0
  | c + 1 => fs m a b c + (a * (c : Int) + b) / m
/-- the sum of (x - m * k) / a for k from 1 to T -/
def hs (a m x : Int) : Nat → Int
  | 0 => 0
  | t + 1 => hs a m x t + (x - m * ((t : Int) + 1)) / a
/-! counts -/
def cnt (p : Int → Bool) : Nat → Int
  | 0 => 0
  | n + 1 => cnt p n + (if p (n : Int) = true then 1 else 0)
end P
/-! Y18: what is not read: the theory of misreading. -/
namespace E
open PySem PySem.Spec PyProof.Rows L2
section
variable {f : T3 Int Str Int} {r : T3 Int Int Int} {xs : List Int}
end
end E
/-! Y19: papers: texts that are not read right at lengths that are not safe. -/
namespace E
open PySem PySem.Spec PyProof.Rows L2
section
variable {f : T3 Int Str Int} {r : T3 Int Int Int} {L : Int}
section
variable {A : List (T2 Int Int)} {p : T2 Int Int}
end
abbrev gd (n : Int) : T2 Str Int := ⟨"good", n⟩
end
end E
/-! Y20: frames whose levels do not all last the same. -/
namespace E
open PySem PySem.Spec PyProof.Rows L2
section
variable {f : T3 Int Str Int} {r : T3 Int Int Int} {xs : List Int}
/-- a frame with its ticks -/
structure UF where
  ts : List Int
  n : Int
def UF.a (p : UF) : Int := (p.ts[0]?).getD 0
def UF.e (f : T3 Int Str Int) (p : UF) : Int := (p.ts[(fsz f - f.c).toNat]?).getD 0
def stU (f : T3 Int Str Int) (p : UF) : List (Int × Int) := p.ts.zip (frm f p.n)
structure UOk (f : T3 Int Str Int) (lo hi : Int) (p : UF) : Prop where
  len : (p.ts.length : Int) = fsz f
  lob : ∀ (k : Nat) (x : Int), p.ts[k]? = some x → p.a + (k : Int) * lo ≤ x
  hib : ∀ (k : Nat) (x : Int), p.ts[k]? = some x → x ≤ p.a + (k : Int) * hi
  up : p.ts.Pairwise (· < ·)
  num : 0 ≤ p.n ∧ p.n < 2 ^ f.a.toNat
def USp (f : T3 Int Str Int) (lo : Int) (F : List UF) : Prop := F.Pairwise fun p q => p.a + fsz f * lo ≤ q.a ∧ ∀ x ∈ p.ts, x < q.a
section
variable {lo hi : Int}
theorem UOk.ge {p : UF} (h : UOk f lo hi p) (hlo : 0 ≤ lo) {x : Int} (hx : x ∈ p.ts) : p.a ≤ x := by
  obtain ⟨k, hk⟩ := List.getElem?_of_mem hx
  have := h.lob k x hk
  have := Int.mul_nonneg (show (0 : Int) ≤ (k : Int) by omega) hlo
  omega
/-- a span that a receiver reads -/
structure SafeU (f : T3 Int Str Int) (r : T3 Int Int Int) (lo hi : Int) : Prop where
  g : 1 ≤ r.a
  w : 0 ≤ r.b
  s : 1 ≤ r.c
  c1 : r.a * (r.b + 1) ≤ lo
  c2 : r.a * (r.b + r.c * (fsz f - 1) + 1) ≤ fsz f * lo
  c3 : hi * (fsz f - f.c) ≤ r.a * (r.b + r.c * (fsz f - f.c))
end
end
end E
/-! Y21: texts whose offsets drift: good offsets are read, others are not. -/
namespace E
open PySem PySem.Spec PyProof.Rows L2
section
variable {f : T3 Int Str Int} {r : T3 Int Int Int} {L : Int}
/-- an offset at which each look lies in its level -/
structure GoodO (f : T3 Int Str Int) (r : T3 Int Int Int) (L o : Int) : Prop where
  o0 : 0 ≤ o
  c1 : o + r.a * r.b < L
  c2 : o + r.a * r.b + r.a * r.c * (fsz f - 1) < fsz f * L
  c3 : L * (fsz f - f.c) ≤ o + r.a * r.b + r.a * r.c * (fsz f - f.c)
section
variable {σ ρ : Type} {ok : σ → Bool} {step : σ → Fw σ ρ} {n : Nat} {s s' : σ} {w x : ρ}
end
section
variable {F : List (T2 Int Int)} {S M : Int} {w : T2 (List (T3 Int Str Int)) (T2 Str (Option Int))}
end
section
variable {xs : List Int} {ph M : Int} {w : T2 (List (T3 Int Str Int)) (T2 Str (Option Int))}
end
section
variable {A : List (T2 Int Int)} {p q : T2 Int Int} {S M : Int} {w : T2 (List (T3 Int Str Int)) (T2 Str (Option Int))} {rs more : List (T3 Int Str Int)} {n : Nat} {o : Int}
end
end
end E
/-! Y22: a machine that goes from 0 to 0, against the walk. -/
namespace E
open PySem PySem.Spec PyProof.Rows L2
section
variable {f : T3 Int Str Int} {r : T3 Int Int Int} {xs : List Int}
/-- the first look from a tick on that sees 0 -/
def IsZ (xs : List Int) (g S t : Int) : Option Int → Prop
  | none => ∀ l, t ≤ l → (l - S) % g = 0 → lvl xs l = 1
  | some k => (t ≤ k ∧ (k - S) % g = 0 ∧ lvl xs k = 0) ∧ ∀ l, t ≤ l → l < k → (l - S) % g = 0 → lvl xs l = 1
section
variable {S M : Int} {w : T2 (List (T3 Int Str Int)) (T2 Str (Option Int))}
end
end
end E
/-! Y23: values of any kind: what the checks of arguments say of them; what may be shown. -/
namespace E
open PySem PySem.Spec PyProof.Rows L2
/-! ### shown -/
def fitB (k p : Nat) (d : D) : Bool := d.showable && (Nat.ble d.depth p && (PyData.leavesShort 1001 d && Nat.ble d.bulk k))
theorem fit_of {k p : Nat} {d : D} (h : fitB k p d = true) : Fit d k p := by
  unfold fitB at h
  simp only [Bool.and_eq_true] at h
  exact ⟨h.1, Nat.le_of_ble_eq_true h.2.1, h.2.2.1, Nat.le_of_ble_eq_true h.2.2.2⟩
/-! ### one value -/
def isI : D → Bool
  | .int _ => true
  | _ => false
def inD (l h : Int) : D → Bool
  | .int i => decide (l ≤ i) && decide (i ≤ h)
  | _ => false
def geD (l : Int) : D → Bool
  | .int i => decide (l ≤ i)
  | _ => false
def no3 : D → Bool
  | .tuple [_, _, _] => false
  | _ => true
def isPar : D → Bool
  | .str x => decide (x ∈ ([("none" : Str), ("even" : Str), ("odd" : Str)] : List Str))
  | _ => false
/-- none for a shape, else the index of the first wrong item -/
def sfl : D → Option (Option Int)
  | .tuple [x, y, z] => if inD 1 9 x = false then some (some 0) else if isPar y = false then some (some 1) else if inD 1 2 z = false then some (some 2) else none
  | _ => some none
def rcf : D → Option (Option Int)
  | .tuple [x, y, z] => if geD 1 x = false then some (some 0) else if geD 0 y = false then some (some 1) else if geD 1 z = false then some (some 2) else none
  | _ => some none
/-- an item behind another one -/
def badAt : Option D → D → Bool
  | none, d => !isI d
  | some (.int q), .int i => decide (i ≤ q)
  | _, .int _ => false
  | _, _ => true
def fstBad : Int → Option D → List D → Option Int
  | _, _, [] => none
  | k, p, d :: r => if badAt p d = true then some k else fstBad (k + 1) (some d) r
def sgf (most : Int) : D → Option (Option Int)
  | .list ds => if most < (ds.length : Int) then some none else (fstBad 0 none ds).map some
  | _ => some none
def fstW (p : D → Bool) : Int → List D → Option Int
  | _, [] => none
  | k, d :: r => if p d = true then some k else fstW p (k + 1) r
def tfl (a : Int) (least most : Int) : D → Option (Option Int)
  | .list ds => if (ds.length : Int) < least ∨ most < (ds.length : Int) then some none else (fstW (fun d => !inD 0 (2 ^ a.toNat - 1) d) 0 ds).map some
  | _ => some none
/-- as the program tells a fault -/
def flD : Option (Option Int) → D
  | none => .tuple []
  | some none => .tuple [.none]
  | some (some i) => .tuple [.int i]
/-- as the laws tell it -/
def lfO : Option (Option Int) → Option Int
  | none => some (-1)
  | some none => none
  | some (some i) => some i
def rq (c : String) : Option (Option Int) → Except Ex Unit
  | none => .ok ()
  | some o => .error ⟨c, [("index", (enc o : D))]⟩
def rq0 (c : String) (b : Bool) : Except Ex Unit := if b = true then .ok () else .error ⟨c, []⟩
def geO (o : Option (Option Int)) : Prop := ∀ i, o = some (some i) → 0 ≤ i
/-! ### loops that look for a wrong item -/
variable {f : T3 Int Str Int}
def lv01 : D → Bool
  | .int i => decide (i = 0) || decide (i = 1)
  | _ => false
def ints01 : List D → Option (List Int)
  | [] => some []
  | .int i :: r => if i = 0 ∨ i = 1 then (ints01 r).map (i :: ·) else none
  | _ :: _ => none
def numOf (f : T3 Int Str Int) (xs : List Int) : Int := bitsV ((xs.drop 1).take f.a.toNat)
def nofL (f : T3 Int Str Int) (ds : List D) : Option Int := if (ds.length : Int) = fsz f then (match ints01 ds with
  | some xs => if frm f (numOf f xs) = xs then some (numOf f xs) else none
  | none => none) else none
def nofD (f : T3 Int Str Int) : D → Option Int
  | .list ds => nofL f ds
  | _ => none
end E
/-! Y24: the walk of a receiver up to a tick; values with bounded ints. -/
namespace E
open PySem PySem.Spec PyProof.Rows L2
def rfStepE (f : T3 Int Str Int) (r : T3 Int Int Int) (xs : List Int) (st e : Int) (s : Int × Option Int × Bool) (k : Int) : Fw (Int × Option Int × Bool) (T3 Str Int (Option (T3 Int Str Int))) :=
  if e ≤ lookAt r st k then .rt ⟨"frame", lookAt r st k, none⟩ else rfStep f r xs st s k
def rfE (f : T3 Int Str Int) (r : T3 Int Int Int) (xs : List Int) (st e : Int) : T3 Str Int (Option (T3 Int Str Int)) :=
  match runT (rfStepE f r xs st e) (rngL 0 1 (fsz f).toNat) (0, none, true) with
  | .rt x => x
  | .go s => ⟨"idle", lookAt r st (fsz f - 1), some ⟨st, wordOf f s.1 s.2.1, s.1⟩⟩
def stepE (f : T3 Int Str Int) (r : T3 Int Int Int) (ph : Int) (xs : List Int) (e : Int) (s : WS) : Fw WS (T2 (List (T3 Int Str Int)) (T2 Str (Option Int))) :=
  if s.2.1 = "idle" ∧ lvl xs s.2.2 = 0 then (if (rfE f r xs s.2.2 e).a = "frame" then .rt ⟨s.1, ⟨"frame", some (rfE f r xs s.2.2 e).b⟩⟩ else .nx (s.1 ++ (rfE f r xs s.2.2 e).c.toList, (rfE f r xs s.2.2 e).a, (rfE f r xs s.2.2 e).b + r.a))
  else if s.2.1 = "waiting" ∧ lvl xs s.2.2 = 1 then .nx (s.1, "idle", s.2.2 + r.a)
  else match xs[cntT xs s.2.2]? with
    | none => .rt ⟨s.1, ⟨s.2.1, none⟩⟩
    | some x => .nx (s.1, s.2.1, lookF r ph x)
def runE (f : T3 Int Str Int) (r : T3 Int Int Int) (ph : Int) (xs : List Int) (e : Int) : Nat → WS → Option (T2 (List (T3 Int Str Int)) (T2 Str (Option Int)))
  | 0, _ => none
  | n + 1, s => if s.2.2 < e then (match stepE f r ph xs e s with
    | .nx s' => runE f r ph xs e n s'
    | .bk _ => none
    | .rt w => some w) else some ⟨s.1, ⟨s.2.1, none⟩⟩
section
variable {f : T3 Int Str Int} {r : T3 Int Int Int} {xs : List Int} {ph st e : Int}
end
/-! ### bounded ints -/
mutual
def bdd : D → Bool
  | .int i => decide (-(10 ^ 40) ≤ i) && decide (i ≤ 10 ^ 40)
  | .list ds => bddL ds
  | .tuple ds => bddL ds
  | _ => true
def bddL : List D → Bool
  | [] => true
  | d :: ds => bdd d && bddL ds
end
/-- a value that may be shown, with bounded ints -/
structure OkD (k p : Nat) (d : D) : Prop where
  fit : Fit d k p
  bd : bdd d = true
def okB (k p : Nat) (d : D) : Bool := fitB k p d && bdd d
theorem OkD.up {k p l q : Nat} {d : D} (h : OkD k p d) (h1 : k ≤ l := by omega) (h2 : p ≤ q := by omega) : OkD l q d := ⟨fit_mono h.fit h1 h2, h.bd⟩
/-! ### signals, items of lists -/
def B30 (x : Int) : Prop := -(10 ^ 30) ≤ x ∧ x ≤ 10 ^ 29
structure Sig (xs : List Int) : Prop where
  r : Rises xs
  b : ∀ x ∈ xs, B30 x
def It (d : D) : Prop := Fit d 2 1 ∧ SeqAt.shaped d = true
/-! ### what a call tells -/
/-- nothing; or a class, with the index that it has -/
abbrev Ck := Option (String × Option (Option Int))
def c1 (c : String) (o : Option (Option Int)) : Ck := o.map fun o => (c, some o)
def c0 (c : String) (b : Bool) : Ck := if b = true then none else some (c, none)
def exOf (p : String × Option (Option Int)) : Ex := ⟨p.1, match p.2 with | none => [] | some o => [("index", (enc o : D))]⟩
def Tells {α : Type} (m : Option (Except Ex α)) (c : Ck) : Prop := match c with
  | none => ∃ x, m = some (.ok x)
  | some p => m = some (.error (exOf p))
section
variable {α β : Type} {c c' : Ck}
end
/-- as the laws tell it -/
def toldC : Ck → List Str
  | none => []
  | some (c, none) => [Str.ofString c]
  | some (c, some o) => [Str.ofString c, PyData.shown (enc o : D)]
/-- which classes, and small indexes -/
def CkIn (l1 l0 : List String) (c : Ck) : Prop := ∀ p, c = some p → match p.2 with
  | none => p.1 ∈ l0
  | some o => p.1 ∈ l1 ∧ ∀ i, o = some i → 0 ≤ i ∧ i ≤ 10 ^ 6
def SmO (o : Option (Option Int)) : Prop := ∀ i, o = some (some i) → 0 ≤ i ∧ i ≤ 10 ^ 6
end E
namespace P
open PySem PySem.Spec PyProof.Rows L2 E
def top (i : Nat) : Stmt := PySem.Challenge.pw_startbits_k68_texts_written_and_read.main.body.getD i (.Pass ⟨0, 0, 0, 0⟩)
abbrev s__law_source : Stmt := top 39
abbrev s__law_draw : Stmt := top 40
abbrev s__law_signal : Stmt := top 44
abbrev s_require_string : Stmt := top 30
abbrev s_words_of : Stmt := top 29
abbrev s_integer_of : Stmt := top 28
abbrev s_parse_signal : Stmt := top 33
abbrev s_format_signal : Stmt := top 26
abbrev s__law_signal_right : Stmt := top 46
abbrev s_is_integer : Stmt := top 11
abbrev s_shape_fault : Stmt := top 15
abbrev s_require_shape : Stmt := top 17
abbrev s_is_at_least : Stmt := top 12
abbrev s_require_length : Stmt := top 19
abbrev s_fits_shape : Stmt := top 14
abbrev s_sending_item : Stmt := top 34
abbrev s_frame_size : Stmt := top 13
abbrev s_parse_sending : Stmt := top 35
abbrev s__law_shape : Stmt := top 41
abbrev s__law_text : Stmt := top 42
abbrev s__law_size : Stmt := top 43
abbrev s__law_sending : Stmt := top 47
abbrev s_format_sending : Stmt := top 27
abbrev s__law_sending_right : Stmt := top 48
abbrev s_format_shape : Stmt := top 25
abbrev s_shape_of : Stmt := top 31
abbrev s_parse_shape : Stmt := top 32
abbrev s__law_shapes_right : Stmt := top 45
abbrev s_signal_fault : Stmt := top 16
abbrev s_require_signal : Stmt := top 18
abbrev s_require_at_least : Stmt := top 20
abbrev s_multiplied : Stmt := top 37
abbrev s_law : Stmt := top 49
noncomputable def m__law_source : FT := runF 4 (seqS (setS 2 (iteS (boolT (bin2 ltR (varS 1) (callG (g1 lenD) (consA (varS 0) nilA)))) (bin2 idxR (varS 0) (varS 1)) (litS (.int 0))))
 (seqS (setS 3 (iteS (boolT (bin2 geR (callG (g1 absD) (consA (varS 2) nilA)) (bin2 powR (litS (.int 10)) (litS (.int 18))))) (bin2 subR (callG (g1 absD) (consA (varS 2) nilA)) (bin2 powR (litS (.int 10)) (litS (.int 18)))) (litS (.int 0))))
 (retS (lstS (consA (varS 3) (consA (bin2 addR (bin2 modR (callG (g1 intD) (consA (varS 2) nilA)) (litS (.int 2305843009213693951))) (bin2 mulR (litS (.int 1000003)) (varS 1))) (consA (litS (.int 0)) nilA)))))))
noncomputable def m__law_draw : FT := runF 4 (seqS (ifS (boolT (bin2 gtR (bin2 idxR (varS 0) (litS (.int 0))) (litS (.int 0))))
 (seqS (setS 2 (bin2 modR (callG (g1 intD) (consA (bin2 idxR (varS 0) (litS (.int 0))) nilA)) (varS 1)))
 (seqS (subS (varS 0) (litS (.int 0)) (bin2 fdivR (bin2 idxR (varS 0) (litS (.int 0))) (varS 1)))
 (retS (varS 2))))
 skipS)
 (seqS (subS (varS 0) (litS (.int 2)) (bin2 addR (bin2 idxR (varS 0) (litS (.int 2))) (litS (.int 1))))
 (seqS (setS 3 (bin2 addR (bin2 idxR (varS 0) (litS (.int 1))) (bin2 mulR (litS (.int 2750159)) (bin2 idxR (varS 0) (litS (.int 2))))))
 (seqS (setS 3 (bin2 addR (bin2 modR (callG (g1 intD) (consA (bin2 powR (varS 3) (litS (.int 3))) nilA)) (bin2 addR (bin2 powR (litS (.int 10)) (litS (.int 38))) (litS (.int 133)))) (bin2 mulR (litS (.int 7368787)) (bin2 idxR (varS 0) (litS (.int 2))))))
 (seqS (setS 3 (bin2 modR (callG (g1 intD) (consA (bin2 powR (varS 3) (litS (.int 3))) nilA)) (bin2 addR (bin2 powR (litS (.int 10)) (litS (.int 41))) (litS (.int 217)))))
 (retS (bin2 modR (callG (g1 intD) (consA (bin2 fdivR (varS 3) (litS (.int 1000003))) nilA)) (varS 1))))))))
noncomputable def m__law_signal : FT := runF 6 (seqS (setS 2 (bin2 idxR (lstS (consA (litS (.int 1)) (consA (litS (.int 3)) (consA (litS (.int 12)) (consA (bin2 powR (litS (.int 10)) (litS (.int 25))) nilA))))) (callF [true, false] m__law_draw 2 0 [0, 1] [] (consA (varS 0) (consA (litS (.int 4)) nilA)) nilA)))
 (seqS (setS 3 (bin2 addR (bin2 idxR (lstS (consA (litS (.int 0)) (consA (un1 negR (litS (.int 40))) (consA (litS (.int 7)) (consA (un1 negR (bin2 powR (litS (.int 10)) (litS (.int 29)))) (consA (bin2 powR (litS (.int 10)) (litS (.int 28))) nilA)))))) (callF [true, false] m__law_draw 2 0 [0, 1] [] (consA (varS 0) (consA (litS (.int 5)) nilA)) nilA)) (callF [true, false] m__law_draw 2 0 [0, 1] [] (consA (varS 0) (consA (litS (.int 50)) nilA)) nilA)))
 (seqS (setS 4 (lstS nilA))
 (seqS (forS (rngI rng1 (consA (varS 1) nilA)) (.nm 5) [1, 5]
 (seqS (exprS (methS appR (varS 4) (consA (varS 3) nilA)))
 (setS 3 (bin2 addR (bin2 addR (varS 3) (litS (.int 1))) (bin2 idxR (lstS (consA (litS (.int 0)) (consA (callF [true, false] m__law_draw 2 0 [0, 1] [] (consA (varS 0) (consA (varS 2) nilA)) nilA) (consA (callF [true, false] m__law_draw 2 0 [0, 1] [] (consA (varS 0) (consA (varS 2) nilA)) nilA) nilA)))) (callF [true, false] m__law_draw 2 0 [0, 1] [] (consA (varS 0) (consA (litS (.int 3)) nilA)) nilA))))))
 (retS (varS 4))))))
noncomputable def m_require_string : FT := runF 1 (ifS (notT (truS (un1 (isiR .str) (varS 0))))
 badS
 skipS)
noncomputable def m_words_of : FT := runF 1 (seqS (ifS (boolT (bin2 (eqR false) (varS 0) (litS (.str ""))))
 (retS (lstS nilA))
 skipS)
 (retS (methT splitR (varS 0) (consA (litS (.str " ")) nilA))))
noncomputable def m_integer_of : FT := runF 3 (seqS (setS 1 (iteS (boolT (bin2 (eqR false) (sliS (varS 0) noO (someO (litS (.int 1)))) (litS (.str "-")))) (sliS (varS 0) (someO (litS (.int 1))) noO) (varS 0)))
 (seqS (ifS (orT (notT (boolT (chainS leR leR (litS (.int 1)) (callG (g1 lenD) (consA (varS 1) nilA)) (litS (.int 30))))) (notT (truS (callG (g1 allD) (consA (compS (strI (varS 1)) (.nm 2) [2] yesT (bin2 (inTS false) (varS 2) (litS (.str "0123456789")))) nilA)))))
 (retS (litS .none))
 skipS)
 (seqS (ifS (andT (boolT (bin2 (eqR false) (bin2 idxR (varS 1) (litS (.int 0))) (litS (.str "0")))) (boolT (bin2 (eqR true) (varS 0) (litS (.str "0")))))
 (retS (litS .none))
 skipS)
 (retS (callG (g1 intT) (consA (varS 0) nilA))))))
noncomputable def m_parse_signal : FT := runF 5 (seqS (exprS (callF [false] m_require_string 1 0 [0] [] (consA (varS 0) nilA) nilA))
 (seqS (setS 1 (lstS nilA))
 (seqS (forS (enumI (consA (callF [false] m_words_of 1 0 [0] [] (consA (varS 0) nilA) nilA) nilA)) (.tp [(.nm 2), (.nm 3)]) [0, 2, 3, 4]
 (seqS (setS 4 (callF [false] m_integer_of 1 0 [0] [] (consA (varS 3) nilA) nilA))
 (seqS (ifS (orT (boolT (un1 (isNR false) (varS 4))) (orT (boolT (bin2 geR (varS 2) (litS (.int 800)))) (andT (boolT (bin2 (eqR true) (varS 1) (lstS nilA))) (boolT (bin2 leR (varS 4) (bin2 idxR (varS 1) (un1 negR (litS (.int 1)))))))))
 badS
 skipS)
 (exprS (methS appR (varS 1) (consA (varS 4) nilA))))))
 (retS (varS 1)))))
noncomputable def m_format_signal : FT := runF 2 (retS (methT joinR (litS (.str " ")) (consA (compS (seqI (varS 0)) (.nm 1) [1] yesT (callG (g1 strD) (consA (varS 1) nilA))) nilA)))
noncomputable def m__law_signal_right : FT := runF 6 (seqS (par2S 1 2 (consA (litS (.str "")) (consA (callG (g1 listD) (consA (varS 0) nilA)) nilA)))
 (seqS (forS (enumI (consA (varS 0) nilA)) (.tp [(.nm 3), (.nm 4)]) [3, 4, 5]
 (setS 1 (bin2 addR (bin2 addR (varS 1) (bin2 mulST (litS (.str " ")) (callG (g1 intD) (consA (bin2 gtR (varS 3) (litS (.int 0))) nilA)))) (callG (g1 strD) (consA (varS 4) nilA)))))
 (seqS (ifS (orT (boolT (bin2 (eqR true) (callG (g1 reprD) (consA (callF [false] m_format_signal 1 0 [0] [] (consA (varS 2) nilA) nilA) nilA)) (callG (g1 reprD) (consA (varS 1) nilA)))) (boolT (bin2 (eqR true) (varS 2) (varS 0))))
 (retS (litS (.bool false)))
 skipS)
 (seqS (setS 5 (callF [false] m_parse_signal 1 0 [0] [] (consA (varS 1) nilA) nilA))
 (seqS (ifS (boolT (bin2 (eqR true) (callG (g1 reprD) (consA (varS 5) nilA)) (callG (g1 reprD) (consA (varS 0) nilA))))
 (retS (litS (.bool false)))
 skipS)
 (seqS (exprS (methS appR (varS 5) (consA (litS (.int 0)) nilA)))
 (retS (andV (bin2 (eqR false) (callG (g1 reprD) (consA (callF [false] m_parse_signal 0 1 [0] [] nilA (consA (varS 1) nilA)) nilA)) (callG (g1 reprD) (consA (varS 0) nilA))) (bin2 (eqR false) (callF [false] m_format_signal 0 1 [0] [] nilA (consA (varS 2) nilA)) (varS 1))))))))))
noncomputable def m_is_integer : FT := runF 1 (retS (andV (un1 (isiR .int) (varS 0)) (un1 notR (un1 (isiR .bool) (varS 0)))))
noncomputable def m_shape_fault : FT := runF 1 (seqS (ifS (orT (notT (truS (un1 (isiR .tuple) (varS 0)))) (boolT (bin2 (eqR true) (callG (g1 lenD) (consA (varS 0) nilA)) (litS (.int 3)))))
 (retS (tupS (consA (litS .none) nilA)))
 skipS)
 (seqS (ifS (orT (notT (truS (callF [false] m_is_integer 1 0 [0] [] (consA (bin2 idxR (varS 0) (litS (.int 0))) nilA) nilA))) (notT (boolT (chainS leR leR (litS (.int 1)) (bin2 idxR (varS 0) (litS (.int 0))) (litS (.int 9))))))
 (retS (tupS (consA (litS (.int 0)) nilA)))
 skipS)
 (seqS (ifS (orT (notT (truS (un1 (isiR .str) (bin2 idxR (varS 0) (litS (.int 1)))))) (boolT (bin2 (inR true) (bin2 idxR (varS 0) (litS (.int 1))) (litS (.tuple [.str "none", .str "even", .str "odd"])))))
 (retS (tupS (consA (litS (.int 1)) nilA)))
 skipS)
 (seqS (ifS (orT (notT (truS (callF [false] m_is_integer 1 0 [0] [] (consA (bin2 idxR (varS 0) (litS (.int 2))) nilA) nilA))) (notT (boolT (chainS leR leR (litS (.int 1)) (bin2 idxR (varS 0) (litS (.int 2))) (litS (.int 2))))))
 (retS (tupS (consA (litS (.int 2)) nilA)))
 skipS)
 (retS (tupS nilA))))))
noncomputable def m_require_shape : FT := runF 2 (seqS (setS 1 (callF [false] m_shape_fault 1 0 [0] [] (consA (varS 0) nilA) nilA))
 (ifS (boolT (bin2 (eqR true) (varS 1) (tupS nilA)))
 badS
 skipS))
noncomputable def m_is_at_least : FT := runF 2 (retS (andV (callF [false] m_is_integer 1 0 [0] [] (consA (varS 0) nilA) nilA) (bin2 geR (varS 0) (varS 1))))
noncomputable def m_require_length : FT := runF 1 (ifS (notT (truS (callF [false, false] m_is_at_least 2 0 [0, 1] [] (consA (varS 0) (consA (litS (.int 1)) nilA)) nilA)))
 badS
 skipS)
noncomputable def m_fits_shape : FT := runF 2 (retS (andV (callF [false] m_is_integer 1 0 [0] [] (consA (varS 1) nilA) nilA) (chainS leR ltR (litS (.int 0)) (varS 1) (bin2 shlR (litS (.int 1)) (bin2 idxR (varS 0) (litS (.int 0)))))))
noncomputable def m_sending_item : FT := runF 5 (seqS (setS 2 (methT splitR (varS 1) (consA (litS (.str ":")) nilA)))
 (seqS (ifS (boolT (bin2 (eqR true) (callG (g1 lenD) (consA (varS 2) nilA)) (litS (.int 2))))
 (retS (litS .none))
 skipS)
 (seqS (par2S 3 4 (consA (callF [false] m_integer_of 1 0 [0] [] (consA (bin2 idxR (varS 2) (litS (.int 0))) nilA) nilA) (consA (callF [false] m_integer_of 1 0 [0] [] (consA (bin2 idxR (varS 2) (litS (.int 1))) nilA) nilA) nilA)))
 (seqS (ifS (orT (boolT (un1 (isNR false) (varS 3))) (notT (truS (callF [false, false] m_fits_shape 2 0 [0, 1] [] (consA (varS 0) (consA (varS 4) nilA)) nilA))))
 (retS (litS .none))
 skipS)
 (retS (tupS (consA (varS 3) (consA (varS 4) nilA))))))))
noncomputable def m_frame_size : FT := runF 1 (retS (bin2 addR (bin2 addR (bin2 addR (litS (.int 1)) (bin2 idxR (varS 0) (litS (.int 0)))) (callG (g1 intD) (consA (bin2 (eqR true) (bin2 idxR (varS 0) (litS (.int 1))) (litS (.str "none"))) nilA))) (bin2 idxR (varS 0) (litS (.int 2)))))
noncomputable def m_parse_sending : FT := runF 7 (seqS (exprS (callF [false] m_require_shape 1 0 [0] [] (consA (varS 0) nilA) nilA))
 (seqS (exprS (callF [false] m_require_length 1 0 [0] [] (consA (varS 1) nilA) nilA))
 (seqS (exprS (callF [false] m_require_string 1 0 [0] [] (consA (varS 2) nilA) nilA))
 (seqS (setS 3 (lstS nilA))
 (seqS (forS (enumI (consA (callF [false] m_words_of 1 0 [0] [] (consA (varS 2) nilA) nilA) nilA)) (.tp [(.nm 4), (.nm 5)]) [2, 4, 5, 6]
 (seqS (setS 6 (callF [false, false] m_sending_item 2 0 [0, 1] [] (consA (varS 0) (consA (varS 5) nilA)) nilA))
 (seqS (ifS (orT (boolT (un1 (isNR false) (varS 6))) (boolT (bin2 geR (varS 4) (litS (.int 60)))))
 badS
 skipS)
 (seqS (ifS (andT (boolT (bin2 (eqR true) (varS 3) (lstS nilA))) (boolT (bin2 ltR (bin2 idxR (varS 6) (litS (.int 0))) (bin2 addR (bin2 idxR (bin2 idxR (varS 3) (un1 negR (litS (.int 1)))) (litS (.int 0))) (bin2 mulR (callF [false] m_frame_size 1 0 [0] [] (consA (varS 0) nilA) nilA) (varS 1))))))
 badS
 skipS)
 (exprS (methS appR (varS 3) (consA (varS 6) nilA)))))))
 (retS (varS 3)))))))
noncomputable def m__law_shape : FT := runF 2 (seqS (setS 1 (bin2 idxR (lstS (consA (litS (.str "none")) (consA (litS (.str "even")) (consA (litS (.str "odd")) nilA)))) (callF [true, false] m__law_draw 2 0 [0, 1] [] (consA (varS 0) (consA (litS (.int 3)) nilA)) nilA)))
 (retS (tupS (consA (bin2 addR (litS (.int 1)) (callF [true, false] m__law_draw 2 0 [0, 1] [] (consA (varS 0) (consA (litS (.int 9)) nilA)) nilA)) (consA (varS 1) (consA (bin2 addR (litS (.int 1)) (callF [true, false] m__law_draw 2 0 [0, 1] [] (consA (varS 0) (consA (litS (.int 2)) nilA)) nilA)) nilA))))))
noncomputable def m__law_text : FT := runF 6 (seqS (setS 3 (litS (.int 1)))
 (seqS (forS (rngI rng1 (consA (bin2 idxR (varS 1) (litS (.int 0))) nilA)) (.nm 4) [1, 4, 5]
 (setS 3 (bin2 mulR (litS (.int 2)) (varS 3))))
 (seqS (setS 5 (lstS nilA))
 (seqS (forS (rngI rng1 (consA (varS 2) nilA)) (.nm 4) [1, 2, 4]
 (exprS (methS appR (varS 5) (consA (bin2 idxR (lstS (consA (litS (.int 0)) (consA (bin2 subR (varS 3) (litS (.int 1))) (consA (callF [true, false] m__law_draw 2 0 [0, 1] [] (consA (varS 0) (consA (varS 3) nilA)) nilA) (consA (callF [true, false] m__law_draw 2 0 [0, 1] [] (consA (varS 0) (consA (varS 3) nilA)) nilA) nilA))))) (callF [true, false] m__law_draw 2 0 [0, 1] [] (consA (varS 0) (consA (litS (.int 4)) nilA)) nilA)) nilA))))
 (retS (varS 5))))))
noncomputable def m__law_size : FT := runF 1 (retS (bin2 addR (bin2 addR (bin2 addR (litS (.int 1)) (bin2 idxR (varS 0) (litS (.int 0)))) (callG (g1 intD) (consA (bin2 (eqR true) (bin2 idxR (varS 0) (litS (.int 1))) (litS (.str "none"))) nilA))) (bin2 idxR (varS 0) (litS (.int 2)))))
noncomputable def m__law_sending : FT := runF 8 (seqS (par2S 4 5 (consA (bin2 subR (bin2 idxR (lstS (consA (litS (.int 0)) (consA (un1 negR (bin2 powR (litS (.int 10)) (litS (.int 29)))) (consA (bin2 powR (litS (.int 10)) (litS (.int 28))) (consA (litS (.int 5)) nilA))))) (callF [true, false] m__law_draw 2 0 [0, 1] [] (consA (varS 0) (consA (litS (.int 4)) nilA)) nilA)) (callF [true, false] m__law_draw 2 0 [0, 1] [] (consA (varS 0) (consA (litS (.int 30)) nilA)) nilA)) (consA (lstS nilA) nilA)))
 (seqS (forS (seqI (callF [true, false, false] m__law_text 3 0 [0, 1, 2] [] (consA (varS 0) (consA (varS 1) (consA (varS 3) nilA))) nilA)) (.nm 6) [3, 6, 7]
 (seqS (exprS (methS appR (varS 5) (consA (tupS (consA (varS 4) (consA (varS 6) nilA))) nilA)))
 (seqS (setS 7 (bin2 idxR (lstS (consA (litS (.int 0)) (consA (litS (.int 0)) (consA (litS (.int 1)) (consA (callF [true, false] m__law_draw 2 0 [0, 1] [] (consA (varS 0) (consA (litS (.int 100)) nilA)) nilA) (consA (callF [true, false] m__law_draw 2 0 [0, 1] [] (consA (varS 0) (consA (bin2 mulR (litS (.int 9)) (varS 2)) nilA)) nilA) nilA)))))) (callF [true, false] m__law_draw 2 0 [0, 1] [] (consA (varS 0) (consA (litS (.int 5)) nilA)) nilA)))
 (setS 4 (bin2 addR (bin2 addR (varS 4) (bin2 mulR (callF [false] m__law_size 1 0 [0] [] (consA (varS 1) nilA) nilA) (varS 2))) (varS 7))))))
 (retS (varS 5))))
noncomputable def m_format_sending : FT := runF 3 (retS (methT joinR (litS (.str " ")) (consA (compS (seqI (varS 0)) (.tp [(.nm 1), (.nm 2)]) [1, 2] yesT (jsS [(fmtS (varS 1)), (litS (.str ":")), (fmtS (varS 2))])) nilA)))
noncomputable def m__law_sending_right : FT := runF 11 (seqS (par2S 2 3 (consA (callF [true] m__law_shape 1 0 [0] [] (consA (varS 0) nilA) nilA) (consA (bin2 addR (litS (.int 1)) (callF [true, false] m__law_draw 2 0 [0, 1] [] (consA (varS 0) (consA (bin2 idxR (lstS (consA (litS (.int 1)) (consA (litS (.int 300)) (consA (bin2 powR (litS (.int 10)) (litS (.int 26))) nilA)))) (callF [true, false] m__law_draw 2 0 [0, 1] [] (consA (varS 0) (consA (litS (.int 3)) nilA)) nilA)) nilA)) nilA)) nilA)))
 (seqS (par2S 4 5 (consA (callF [true, false, false, false] m__law_sending 4 0 [0, 1, 2, 3] [] (consA (varS 0) (consA (varS 2) (consA (varS 3) (consA (varS 1) nilA)))) nilA) (consA (lstS nilA) nilA)))
 (seqS (forS (seqI (varS 4)) (.tp [(.nm 6), (.nm 7)]) [0, 1, 6, 7, 8, 9, 10]
 (exprS (methS appR (varS 5) (consA (bin2 addR (bin2 addR (callG (g1 strD) (consA (varS 6) nilA)) (litS (.str ":"))) (callG (g1 strD) (consA (varS 7) nilA))) nilA))))
 (seqS (par2S 8 9 (consA (methT joinR (litS (.str " ")) (consA (varS 5) nilA)) (consA (callG (g1 listD) (consA (varS 4) nilA)) nilA)))
 (seqS (ifS (orT (boolT (bin2 (eqR true) (callG (g1 reprD) (consA (callF [false] m_format_sending 1 0 [0] [] (consA (varS 9) nilA) nilA) nilA)) (callG (g1 reprD) (consA (varS 8) nilA)))) (boolT (bin2 (eqR true) (varS 9) (varS 4))))
 (retS (litS (.bool false)))
 skipS)
 (seqS (setS 10 (callF [false, false, false] m_parse_sending 3 0 [0, 1, 2] [] (consA (varS 2) (consA (varS 3) (consA (varS 8) nilA))) nilA))
 (seqS (ifS (boolT (bin2 (eqR true) (callG (g1 reprD) (consA (varS 10) nilA)) (callG (g1 reprD) (consA (varS 4) nilA))))
 (retS (litS (.bool false)))
 skipS)
 (seqS (exprS (methS appR (varS 10) (consA (tupS (consA (litS (.int 0)) (consA (litS (.int 0)) nilA))) nilA)))
 (seqS (ifS (boolT (bin2 (eqR true) (callG (g1 reprD) (consA (callF [false, false, false] m_parse_sending 0 3 [2, 1, 0] [] nilA (consA (varS 8) (consA (varS 3) (consA (varS 2) nilA)))) nilA)) (callG (g1 reprD) (consA (varS 4) nilA))))
 (retS (litS (.bool false)))
 skipS)
 (retS (andV (bin2 (eqR false) (callG (g1 reprD) (consA (callF [false, false, false] m_parse_sending 3 0 [0, 1, 2] [] (consA (varS 2) (consA (litS (.int 1)) (consA (varS 8) nilA))) nilA) nilA)) (callG (g1 reprD) (consA (varS 4) nilA))) (bin2 (eqR false) (callF [false] m_format_sending 0 1 [0] [] nilA (consA (varS 9) nilA)) (varS 8)))))))))))))
noncomputable def m_format_shape : FT := runF 1 (retS (bin2 addR (bin2 addR (callG (g1 strD) (consA (bin2 idxR (varS 0) (litS (.int 0))) nilA)) (bin2 idxR (bin2 idxR (varS 0) (litS (.int 1))) (litS (.int 0)))) (callG (g1 strD) (consA (bin2 idxR (varS 0) (litS (.int 2))) nilA))))
noncomputable def m_shape_of : FT := runF 1 (seqS (ifS (orT (boolT (bin2 (eqR true) (callG (g1 lenD) (consA (varS 0) nilA)) (litS (.int 3)))) (orT (boolT (bin2 (inTS true) (bin2 idxR (varS 0) (litS (.int 0))) (litS (.str "123456789")))) (orT (boolT (notTab [("n", "none"), ("e", "even"), ("o", "odd")] (bin2 idxR (varS 0) (litS (.int 1))))) (boolT (bin2 (inTS true) (bin2 idxR (varS 0) (litS (.int 2))) (litS (.str "12")))))))
 (retS (litS .none))
 skipS)
 (retS (tupS (consA (callG (g1 intT) (consA (bin2 idxR (varS 0) (litS (.int 0))) nilA)) (consA (ixTab [("n", "none"), ("e", "even"), ("o", "odd")] (bin2 idxR (varS 0) (litS (.int 1)))) (consA (callG (g1 intT) (consA (bin2 idxR (varS 0) (litS (.int 2))) nilA)) nilA))))))
noncomputable def m_parse_shape : FT := runF 3 (seqS (exprS (callF [false] m_require_string 1 0 [0] [] (consA (varS 0) nilA) nilA))
 (seqS (setS 1 (methT splitR (varS 0) (consA (litS (.str " ")) nilA)))
 (seqS (setS 2 (callF [false] m_shape_of 1 0 [0] [] (consA (bin2 idxR (varS 1) (litS (.int 0))) nilA) nilA))
 (seqS (ifS (boolT (un1 (isNR false) (varS 2)))
 badS
 skipS)
 (seqS (ifS (boolT (bin2 gtR (callG (g1 lenD) (consA (varS 1) nilA)) (litS (.int 1))))
 badS
 skipS)
 (retS (varS 2)))))))
noncomputable def m__law_shapes_right : FT := runF 6 (seqS (forS (rngI rng2 (consA (litS (.int 1)) (consA (litS (.int 10)) nilA))) (.nm 0) [0, 1, 2, 3, 4, 5]
 (forS (seqI (tupS (consA (tupS (consA (litS (.str "n")) (consA (litS (.str "none")) nilA))) (consA (tupS (consA (litS (.str "e")) (consA (litS (.str "even")) nilA))) (consA (tupS (consA (litS (.str "o")) (consA (litS (.str "odd")) nilA))) nilA))))) (.tp [(.nm 1), (.nm 2)]) [1, 2, 3, 4, 5]
 (forS (seqI (tupS (consA (litS (.int 1)) (consA (litS (.int 2)) nilA)))) (.nm 3) [3, 4, 5]
 (seqS (par2S 4 5 (consA (tupS (consA (varS 0) (consA (varS 2) (consA (varS 3) nilA)))) (consA (bin2 addR (bin2 addR (bin2 idxR (litS (.str "0123456789")) (varS 0)) (varS 1)) (bin2 idxR (litS (.str "012")) (varS 3))) nilA)))
 (ifS (orT (boolT (bin2 (eqR true) (callG (g1 reprD) (consA (callF [false] m_format_shape 1 0 [0] [] (consA (varS 4) nilA) nilA) nilA)) (callG (g1 reprD) (consA (varS 5) nilA)))) (boolT (bin2 (eqR true) (callG (g1 reprD) (consA (callF [false] m_parse_shape 1 0 [0] [] (consA (varS 5) nilA) nilA) nilA)) (callG (g1 reprD) (consA (varS 4) nilA)))))
 (retS (litS (.bool false)))
 skipS)))))
 (retS (andV (bin2 (eqR false) (callF [false] m_format_shape 0 1 [0] [] nilA (consA (tupS (consA (litS (.int 5)) (consA (litS (.str "odd")) (consA (litS (.int 2)) nilA)))) nilA)) (litS (.str "5o2"))) (bin2 (eqR false) (callF [false] m_parse_shape 0 1 [0] [] nilA (consA (litS (.str "5o2")) nilA)) (tupS (consA (litS (.int 5)) (consA (litS (.str "odd")) (consA (litS (.int 2)) nilA))))))))
noncomputable def m_signal_fault : FT := runF 4 (seqS (ifS (orT (notT (truS (un1 (isiR .list) (varS 0)))) (boolT (bin2 gtR (callG (g1 lenD) (consA (varS 0) nilA)) (varS 1))))
 (retS (tupS (consA (litS .none) nilA)))
 skipS)
 (seqS (forS (enumI (consA (varS 0) nilA)) (.tp [(.nm 2), (.nm 3)]) [1, 2, 3]
 (ifS (orT (notT (truS (callF [false] m_is_integer 1 0 [0] [] (consA (varS 3) nilA) nilA))) (andT (boolT (bin2 gtR (varS 2) (litS (.int 0)))) (boolT (bin2 leR (varS 3) (bin2 idxR (varS 0) (bin2 subR (varS 2) (litS (.int 1))))))))
 (retS (tupS (consA (varS 2) nilA)))
 skipS))
 (retS (tupS nilA))))
noncomputable def m_require_signal : FT := runF 3 (seqS (setS 2 (callF [false, false] m_signal_fault 2 0 [0, 1] [] (consA (varS 0) (consA (varS 1) nilA)) nilA))
 (ifS (boolT (bin2 (eqR true) (varS 2) (tupS nilA)))
 badS
 skipS))
noncomputable def m_require_at_least : FT := runF 2 (ifS (notT (truS (callF [false, false] m_is_at_least 2 0 [0, 1] [] (consA (varS 0) (consA (varS 1) nilA)) nilA)))
 badS
 skipS)
noncomputable def m_multiplied : FT := runF 3 (seqS (exprS (callF [false, false] m_require_signal 1 0 [0, 1] [.int 800] (consA (varS 0) nilA) nilA))
 (seqS (exprS (callF [false, false] m_require_at_least 2 0 [0, 1] [] (consA (varS 1) (consA (litS (.int 1)) nilA)) nilA))
 (retS (compS (seqI (varS 0)) (.nm 2) [2] yesT (bin2 mulR (varS 2) (varS 1))))))
noncomputable def m_law : FT := runF 7 (seqS (forS (rngI rng1 (consA (callG (g2 max2D) (consA (litS (.int 1)) (consA (callG (g2 min2D) (consA (litS (.int 8)) (consA (callG (g1 lenD) (consA (varS 0) nilA)) nilA))) nilA))) nilA)) (.nm 1) [1, 2, 3, 4, 5, 6]
 (seqS (setS 2 (callF [false, false] m__law_source 2 0 [0, 1] [] (consA (varS 0) (consA (varS 1) nilA)) nilA))
 (seqS (setS 3 (callF [true, false] m__law_signal 2 0 [0, 1] [] (consA (varS 2) (consA (callF [true, false] m__law_draw 2 0 [0, 1] [] (consA (varS 2) (consA (litS (.int 31)) nilA)) nilA) nilA)) nilA))
 (seqS (ifS (notT (truS (callF [false] m__law_signal_right 1 0 [0] [] (consA (varS 3) nilA) nilA)))
 (retS (litS (.bool false)))
 skipS)
 (seqS (setS 4 (methT joinR (litS (.str " ")) (consA (compS (seqI (varS 3)) (.nm 5) [5] yesT (callG (g1 strD) (consA (bin2 mulR (varS 5) (bin2 powR (litS (.int 10)) (litS (.int 29)))) nilA))) nilA)))
 (seqS (ifS (boolT (bin2 (eqR true) (callF [false] m_format_signal 1 0 [0] [] (consA (callF [false, false] m_multiplied 2 0 [0, 1] [] (consA (varS 3) (consA (bin2 powR (litS (.int 10)) (litS (.int 29))) nilA)) nilA) nilA) nilA) (varS 4)))
 (retS (litS (.bool false)))
 skipS)
 (ifS (notT (truS (callF [true, false] m__law_sending_right 2 0 [0, 1] [] (consA (varS 2) (consA (callF [true, false] m__law_draw 2 0 [0, 1] [] (consA (varS 2) (consA (litS (.int 9)) nilA)) nilA) nilA)) nilA)))
 (retS (litS (.bool false)))
 skipS)))))))
 (seqS (setS 2 (callF [false, false] m__law_source 2 0 [0, 1] [] (consA (varS 0) (consA (litS (.int 0)) nilA)) nilA))
 (seqS (ifS (notT (truS (callF [false] m__law_signal_right 1 0 [0] [] (consA (callF [true, false] m__law_signal 2 0 [0, 1] [] (consA (varS 2) (consA (bin2 addR (litS (.int 700)) (callF [true, false] m__law_draw 2 0 [0, 1] [] (consA (varS 2) (consA (litS (.int 101)) nilA)) nilA)) nilA)) nilA) nilA) nilA)))
 (retS (litS (.bool false)))
 skipS)
 (seqS (ifS (notT (truS (callF [true, false] m__law_sending_right 2 0 [0, 1] [] (consA (varS 2) (consA (bin2 addR (litS (.int 50)) (callF [true, false] m__law_draw 2 0 [0, 1] [] (consA (varS 2) (consA (litS (.int 11)) nilA)) nilA)) nilA)) nilA)))
 (retS (litS (.bool false)))
 skipS)
 (seqS (setS 6 (lstS (consA (bin2 subR (litS (.int 1)) (bin2 powR (litS (.int 10)) (litS (.int 30)))) (consA (un1 negR (litS (.int 1))) (consA (litS (.int 0)) (consA (bin2 subR (bin2 powR (litS (.int 10)) (litS (.int 30))) (litS (.int 1))) nilA))))))
 (seqS (ifS (orT (notT (truS (callF [false] m__law_signal_right 1 0 [0] [] (consA (varS 6) nilA) nilA))) (notT (truS (callF [false] m__law_signal_right 1 0 [0] [] (consA (lstS nilA) nilA) nilA))))
 (retS (litS (.bool false)))
 skipS)
 (retS (andV (bin2 (eqR false) (callF [false] m_format_sending 1 0 [0] [] (consA (lstS nilA) nilA) nilA) (litS (.str ""))) (andV (bin2 (eqR false) (callF [false, false, false] m_parse_sending 3 0 [0, 1, 2] [] (consA (tupS (consA (litS (.int 8)) (consA (litS (.str "none")) (consA (litS (.int 1)) nilA)))) (consA (litS (.int 9)) (consA (litS (.str "")) nilA))) nilA) (lstS nilA)) (callF [] m__law_shapes_right 0 0 [] [] nilA nilA))))))))))
structure Bi (mg : Str → Option Value) : Prop where
  b : Free mg ["abs", "all", "bool", "enumerate", "int", "isinstance", "len", "list", "max", "min", "range", "repr", "str", "tuple"]
structure Co (K : PySem.W.Frag) (mg : Str → Option Value) : Prop where
  DIGITS : Con K mg "DIGITS" (.str "0123456789")
  MOST_DIGITS : Con K mg "MOST_DIGITS" (.int 30)
  MOST_LEVELS : Con K mg "MOST_LEVELS" (.int 800)
  MOST_NUMBERS : Con K mg "MOST_NUMBERS" (.int 60)
  PARITIES : Con K mg "PARITIES" (.tuple [.str "none", .str "even", .str "odd"])
structure Tb (K : PySem.W.Frag) (w : World) (mg : Str → Option Value) : Prop where
  PARITY_OF_LETTER : TabC K w mg "PARITY_OF_LETTER" [("n", "none"), ("e", "even"), ("o", "odd")]
section
variable {P : Program} {w : World} {K : PySem.W.Frag} {mg : Str → Option Value} {base : Heap}
theorem w__law_source (cB : Free mg ["abs", "all", "bool", "enumerate", "int", "isinstance", "len", "list", "max", "min", "range", "repr", "str", "tuple"]) (cC : Co K mg) (cT : Tb K w mg)   (D : Def K mg "_law_source" s__law_source []) : Own P w K mg base "_law_source" s__law_source [] 1 ["_law_script", "_law_at"] 4 m__law_source := by
  refine own_of (N := ["_law_script", "_law_at", "_law_cell", "_law_left"]) D (by decide +kernel) rfl fun f cdv A outer z H hr gd => ?_
  have hN : (["_law_script", "_law_at", "_law_cell", "_law_left"] : List Str).Nodup := by decide +kernel
  have hu := hr.units
  have hu1 := units65 hr
  exact (sb_cons (ss_set hN rfl (by first | exact .inl rfl | exact .inr rfl) (se_ite (st_cmp o_lt v (se_callB c_len rfl (cB "len" (by decide)) (by decide +kernel) (sa_cons v sa_nil)) rfl) (se_ix v v (fun _ _ => rfl)) se_int))
 (sb_cons (ss_set hN rfl (by first | exact .inl rfl | exact .inr rfl) (se_ite (st_cmp o_ge (se_callB c_abs rfl (cB "abs" (by decide)) (by decide +kernel) (sa_cons v sa_nil)) (se_bin o_pow se_int se_int) rfl) (se_bin o_sub (se_callB c_abs rfl (cB "abs" (by decide)) (by decide +kernel) (sa_cons v sa_nil)) (se_bin o_pow se_int se_int)) se_int))
 (sb_one (ss_ret (se_lst (sa_cons v (sa_cons (se_bin oP_add (se_bin o_mod (se_callTy c_int rfl (cB "int" (by decide)) (by decide +kernel) (sa_cons v sa_nil)) se_int) (se_bin oP_mul se_int v)) (sa_cons se_int sa_nil))))))))
theorem w__law_draw (cB : Free mg ["abs", "all", "bool", "enumerate", "int", "isinstance", "len", "list", "max", "min", "range", "repr", "str", "tuple"]) (cC : Co K mg) (cT : Tb K w mg)   (D : Def K mg "_law_draw" s__law_draw []) : Own P w K mg base "_law_draw" s__law_draw [] 1 ["_law_source_here", "_law_many"] 4 m__law_draw := by
  refine own_of (N := ["_law_source_here", "_law_many", "_law_drawn", "_law_mixed"]) D (by decide +kernel) rfl fun f cdv A outer z H hr gd => ?_
  have hN : (["_law_source_here", "_law_many", "_law_drawn", "_law_mixed"] : List Str).Nodup := by decide +kernel
  have hu := hr.units
  have hu1 := units65 hr
  exact (sb_cons (ss_if (st_cmp o_gt (se_ix v se_int (fun _ _ => rfl)) se_int rfl)
 (sb_cons (ss_set hN rfl (by first | exact .inl rfl | exact .inr rfl) (se_bin o_mod (se_callTy c_int rfl (cB "int" (by decide)) (by decide +kernel) (sa_cons (se_ix v se_int (fun _ _ => rfl)) sa_nil)) v))
 (sb_cons (ss_sub v se_int (se_bin o_fdiv (se_ix v se_int (fun _ _ => rfl)) v))
 (sb_one (ss_ret v))))
 sb_nil)
 (sb_cons (ss_sub v se_int (se_bin oP_add (se_ix v se_int (fun _ _ => rfl)) se_int))
 (sb_cons (ss_set hN rfl (by first | exact .inl rfl | exact .inr rfl) (se_bin oP_add (se_ix v se_int (fun _ _ => rfl)) (se_bin oP_mul se_int (se_ix v se_int (fun _ _ => rfl)))))
 (sb_cons (ss_set hN rfl (by first | exact .inl rfl | exact .inr rfl) (se_bin oP_add (se_bin o_mod (se_callTy c_int rfl (cB "int" (by decide)) (by decide +kernel) (sa_cons (se_bin o_pow v se_int) sa_nil)) (se_bin oP_add (se_bin o_pow se_int se_int) se_int)) (se_bin oP_mul se_int (se_ix v se_int (fun _ _ => rfl)))))
 (sb_cons (ss_set hN rfl (by first | exact .inl rfl | exact .inr rfl) (se_bin o_mod (se_callTy c_int rfl (cB "int" (by decide)) (by decide +kernel) (sa_cons (se_bin o_pow v se_int) sa_nil)) (se_bin oP_add (se_bin o_pow se_int se_int) se_int)))
 (sb_one (ss_ret (se_bin o_mod (se_callTy c_int rfl (cB "int" (by decide)) (by decide +kernel) (sa_cons (se_bin o_fdiv v se_int) sa_nil)) v))))))))
theorem w__law_signal (cB : Free mg ["abs", "all", "bool", "enumerate", "int", "isinstance", "len", "list", "max", "min", "range", "repr", "str", "tuple"]) (cC : Co K mg) (cT : Tb K w mg)  (o__law_draw : Own P w K mg base "_law_draw" s__law_draw [] 1 ["_law_source_here", "_law_many"] 4 m__law_draw) (D : Def K mg "_law_signal" s__law_signal []) : Own P w K mg base "_law_signal" s__law_signal [] 2 ["_law_source_here", "_law_many"] 6 m__law_signal := by
  refine own_of (N := ["_law_source_here", "_law_many", "_law_wide", "_law_tick", "_law_found", "_law_turn"]) D (by decide +kernel) rfl fun f cdv A outer z H hr gd => ?_
  have hN : (["_law_source_here", "_law_many", "_law_wide", "_law_tick", "_law_found", "_law_turn"] : List Str).Nodup := by decide +kernel
  have hu := hr.units
  have hu1 := units65 hr
  exact (sb_cons (ss_set hN rfl (by first | exact .inl rfl | exact .inr rfl) (se_ix (se_lst (sa_cons se_int (sa_cons se_int (sa_cons se_int (sa_cons (se_bin o_pow se_int se_int) sa_nil))))) (se_own (md := [true, false]) (ix := [0, 1]) (ds := []) o__law_draw (.inl ⟨rfl, fun _ _ _ _ _ _ us ws h1 h2 => match us, ws, h1, h2 with | [_, _], [], _, _ => rfl⟩) hr gd (sa_cons v (sa_cons se_int sa_nil))) (fun _ _ => rfl)))
 (sb_cons (ss_set hN rfl (by first | exact .inl rfl | exact .inr rfl) (se_bin oP_add (se_ix (se_lst (sa_cons se_int (sa_cons (se_neg se_int) (sa_cons se_int (sa_cons (se_neg (se_bin o_pow se_int se_int)) (sa_cons (se_bin o_pow se_int se_int) sa_nil)))))) (se_own (md := [true, false]) (ix := [0, 1]) (ds := []) o__law_draw (.inl ⟨rfl, fun _ _ _ _ _ _ us ws h1 h2 => match us, ws, h1, h2 with | [_, _], [], _, _ => rfl⟩) hr gd (sa_cons v (sa_cons se_int sa_nil))) (fun _ _ => rfl)) (se_own (md := [true, false]) (ix := [0, 1]) (ds := []) o__law_draw (.inl ⟨rfl, fun _ _ _ _ _ _ us ws h1 h2 => match us, ws, h1, h2 with | [_, _], [], _, _ => rfl⟩) hr gd (sa_cons v (sa_cons se_int sa_nil)))))
 (sb_cons (ss_set hN rfl (by first | exact .inl rfl | exact .inr rfl) (se_lst sa_nil))
 (sb_cons (ss_for passN rfl (si_rng1 rfl (cB "range" (by decide)) (sa_cons v sa_nil)) (t_nm hN)
 (sb_cons (ss_expr (se_meth PySem.F.slot_list_append rfl m_append v (sa_cons v sa_nil)))
 (sb_one (ss_set hN rfl (by first | exact .inl rfl | exact .inr rfl) (se_bin oP_add (se_bin oP_add v se_int) (se_ix (se_lst (sa_cons se_int (sa_cons (se_own (md := [true, false]) (ix := [0, 1]) (ds := []) o__law_draw (.inl ⟨rfl, fun _ _ _ _ _ _ us ws h1 h2 => match us, ws, h1, h2 with | [_, _], [], _, _ => rfl⟩) hr gd (sa_cons v (sa_cons v sa_nil))) (sa_cons (se_own (md := [true, false]) (ix := [0, 1]) (ds := []) o__law_draw (.inl ⟨rfl, fun _ _ _ _ _ _ us ws h1 h2 => match us, ws, h1, h2 with | [_, _], [], _, _ => rfl⟩) hr gd (sa_cons v (sa_cons v sa_nil))) sa_nil)))) (se_own (md := [true, false]) (ix := [0, 1]) (ds := []) o__law_draw (.inl ⟨rfl, fun _ _ _ _ _ _ us ws h1 h2 => match us, ws, h1, h2 with | [_, _], [], _, _ => rfl⟩) hr gd (sa_cons v (sa_cons se_int sa_nil))) (fun _ _ => rfl)))))))
 (sb_one (ss_ret v))))))
theorem w_require_string (cB : Free mg ["abs", "all", "bool", "enumerate", "int", "isinstance", "len", "list", "max", "min", "range", "repr", "str", "tuple"]) (cC : Co K mg) (cT : Tb K w mg)   (D : Def K mg "require_string" s_require_string []) : Own P w K mg base "require_string" s_require_string [] 1 ["text"] 1 m_require_string := by
  refine own_of (N := ["text"]) D (by decide +kernel) rfl fun f cdv A outer z H hr gd => ?_
  have hN : (["text"] : List Str).Nodup := by decide +kernel
  have hu := hr.units
  have hu1 := units65 hr
  exact (sb_one (ss_if (st_not (st_truth (se_isi (T := .str) rfl (cB "isinstance" (by decide)) rfl (cB "str" (by decide)) (by decide +kernel) v)))
 (sb_one ss_never)
 sb_nil))
theorem w_words_of (cB : Free mg ["abs", "all", "bool", "enumerate", "int", "isinstance", "len", "list", "max", "min", "range", "repr", "str", "tuple"]) (cC : Co K mg) (cT : Tb K w mg)   (D : Def K mg "words_of" s_words_of []) : Own P w K mg base "words_of" s_words_of [] 1 ["text"] 1 m_words_of := by
  refine own_of (N := ["text"]) D (by decide +kernel) rfl fun f cdv A outer z H hr gd => ?_
  have hN : (["text"] : List Str).Nodup := by decide +kernel
  have hu := hr.units
  have hu1 := units65 hr
  exact (sb_cons (ss_if (st_cmp (oP_eq hu) v se_str rfl)
 (sb_one (ss_ret (se_lst sa_nil)))
 sb_nil)
 (sb_one (ss_ret (se_methT PySem.F.slot_str_split rfl m_split v (sa_cons se_str sa_nil)))))
theorem w_integer_of (cB : Free mg ["abs", "all", "bool", "enumerate", "int", "isinstance", "len", "list", "max", "min", "range", "repr", "str", "tuple"]) (cC : Co K mg) (cT : Tb K w mg)   (D : Def K mg "integer_of" s_integer_of []) : Own P w K mg base "integer_of" s_integer_of [] 1 ["word"] 3 m_integer_of := by
  refine own_of (N := ["word", "digits", "digit"]) D (by decide +kernel) rfl fun f cdv A outer z H hr gd => ?_
  have hN : (["word", "digits", "digit"] : List Str).Nodup := by decide +kernel
  have hu := hr.units
  have hu1 := units65 hr
  exact (sb_cons (ss_set hN rfl (by first | exact .inl rfl | exact .inr rfl) (se_ite (st_cmp (oP_eq hu) (se_slice v so_none (so_some se_int)) se_str rfl) (se_slice v (so_some se_int) so_none) v))
 (sb_cons (ss_if (st_w (sw_or (st_not (st_chain o_le o_le se_int (se_callB c_len rfl (cB "len" (by decide)) (by decide +kernel) (sa_cons v sa_nil)) (se_con (cC.MOST_DIGITS)))) (sw_or1 (st_not (st_truth (se_callB (c_all rfl) rfl (cB "all" (by decide)) (by decide +kernel) (sa_cons (se_comp rfl hN (si_str v) (blkOk_by (N := ["word", "digits", "digit"]) (sc := defScope s_integer_of) (own := [("digit", 2)]) (by decide +kernel)) rfl (by decide) (fun _ _ _ _ _ => (t_nm hN)) (fun _ _ _ _ _ => sts_nil) (fun _ _ _ _ _ => (se_cmp oP_inS v (se_con (cC.DIGITS)) rfl))) sa_nil)))))))
 (sb_one (ss_ret se_none))
 sb_nil)
 (sb_cons (ss_if (st_w (sw_and (st_cmp (oP_eq hu) (se_ix v se_int (fun _ _ => rfl)) se_str rfl) (sw_and1 (st_cmp (oP_ne hu) v se_str rfl))))
 (sb_one (ss_ret se_none))
 sb_nil)
 (sb_one (ss_ret (se_callTy c_intT rfl (cB "int" (by decide)) (by decide +kernel) (sa_cons v sa_nil)))))))
theorem w_parse_signal (cB : Free mg ["abs", "all", "bool", "enumerate", "int", "isinstance", "len", "list", "max", "min", "range", "repr", "str", "tuple"]) (cC : Co K mg) (cT : Tb K w mg)  (o_require_string : Own P w K mg base "require_string" s_require_string [] 1 ["text"] 1 m_require_string) (o_words_of : Own P w K mg base "words_of" s_words_of [] 1 ["text"] 1 m_words_of) (o_integer_of : Own P w K mg base "integer_of" s_integer_of [] 1 ["word"] 3 m_integer_of) (D : Def K mg "parse_signal" s_parse_signal []) : Own P w K mg base "parse_signal" s_parse_signal [] 2 ["text"] 5 m_parse_signal := by
  refine own_of (N := ["text", "signal", "index", "word", "tick"]) D (by decide +kernel) rfl fun f cdv A outer z H hr gd => ?_
  have hN : (["text", "signal", "index", "word", "tick"] : List Str).Nodup := by decide +kernel
  have hu := hr.units
  have hu1 := units65 hr
  exact (sb_cons (ss_expr (se_own (md := [false]) (ix := [0]) (ds := []) o_require_string (.inl ⟨rfl, fun _ _ _ _ _ _ us ws h1 h2 => match us, ws, h1, h2 with | [_], [], _, _ => rfl⟩) hr gd (sa_cons v sa_nil)))
 (sb_cons (ss_set hN rfl (by first | exact .inl rfl | exact .inr rfl) (se_lst sa_nil))
 (sb_cons (ss_for passN rfl (si_enum rfl (cB "enumerate" (by decide)) (sa_cons (se_own (md := [false]) (ix := [0]) (ds := []) o_words_of (.inl ⟨rfl, fun _ _ _ _ _ _ us ws h1 h2 => match us, ws, h1, h2 with | [_], [], _, _ => rfl⟩) hr gd (sa_cons v sa_nil)) sa_nil)) (t_tp rfl (ts_cons (t_nm hN) (ts_cons (t_nm hN) ts_nil)))
 (sb_cons (ss_set hN rfl (by first | exact .inl rfl | exact .inr rfl) (se_own (md := [false]) (ix := [0]) (ds := []) o_integer_of (.inl ⟨rfl, fun _ _ _ _ _ _ us ws h1 h2 => match us, ws, h1, h2 with | [_], [], _, _ => rfl⟩) hr gd (sa_cons v sa_nil)))
 (sb_cons (ss_if (st_w (sw_or (st_isN v) (sw_or (st_cmp o_ge v (se_con (cC.MOST_LEVELS)) rfl) (sw_or1 (st_w (sw_and (st_cmp (oP_ne hu) v (se_lst sa_nil) rfl) (sw_and1 (st_cmp o_le v (se_ix v (se_neg se_int) (fun _ _ => rfl)) rfl))))))))
 (sb_one ss_never)
 sb_nil)
 (sb_one (ss_expr (se_meth PySem.F.slot_list_append rfl m_append v (sa_cons v sa_nil)))))))
 (sb_one (ss_ret v)))))
theorem w_format_signal (cB : Free mg ["abs", "all", "bool", "enumerate", "int", "isinstance", "len", "list", "max", "min", "range", "repr", "str", "tuple"]) (cC : Co K mg) (cT : Tb K w mg)   (D : Def K mg "format_signal" s_format_signal []) : Own P w K mg base "format_signal" s_format_signal [] 1 ["signal"] 2 m_format_signal := by
  refine own_of (N := ["signal", "tick"]) D (by decide +kernel) rfl fun f cdv A outer z H hr gd => ?_
  have hN : (["signal", "tick"] : List Str).Nodup := by decide +kernel
  have hu := hr.units
  have hu1 := units65 hr
  exact (sb_one (ss_ret (se_methT PySem.F.slot_str_join rfl m_join se_str (sa_cons (se_comp rfl hN (si_seq v) (blkOk_by (N := ["signal", "tick"]) (sc := defScope s_format_signal) (own := [("tick", 1)]) (by decide +kernel)) rfl (by decide) (fun _ _ _ _ _ => (t_nm hN)) (fun _ _ _ _ _ => sts_nil) (fun _ _ _ _ _ => (se_callTy c_str rfl (cB "str" (by decide)) (by decide +kernel) (sa_cons v sa_nil)))) sa_nil))))
theorem w__law_signal_right (cB : Free mg ["abs", "all", "bool", "enumerate", "int", "isinstance", "len", "list", "max", "min", "range", "repr", "str", "tuple"]) (cC : Co K mg) (cT : Tb K w mg)  (o_parse_signal : Own P w K mg base "parse_signal" s_parse_signal [] 2 ["text"] 5 m_parse_signal) (o_format_signal : Own P w K mg base "format_signal" s_format_signal [] 1 ["signal"] 2 m_format_signal) (D : Def K mg "_law_signal_right" s__law_signal_right []) : Own P w K mg base "_law_signal_right" s__law_signal_right [] 3 ["_law_wire"] 6 m__law_signal_right := by
  refine own_of (N := ["_law_wire", "_law_due", "_law_passed", "_law_index", "_law_tick", "_law_found"]) D (by decide +kernel) rfl fun f cdv A outer z H hr gd => ?_
  have hN : (["_law_wire", "_law_due", "_law_passed", "_law_index", "_law_tick", "_law_found"] : List Str).Nodup := by decide +kernel
  have hu := hr.units
  have hu1 := units65 hr
  exact (sb_cons (ss_par2 rfl hN rfl rfl (by decide) rfl rfl (sa_cons se_str (sa_cons (se_callTy c_list rfl (cB "list" (by decide)) (by decide +kernel) (sa_cons v sa_nil)) sa_nil)) (by rfl))
 (sb_cons (ss_for passN rfl (si_enum rfl (cB "enumerate" (by decide)) (sa_cons v sa_nil)) (t_tp rfl (ts_cons (t_nm hN) (ts_cons (t_nm hN) ts_nil)))
 (sb_one (ss_set hN rfl (by first | exact .inl rfl | exact .inr rfl) (se_bin oP_add (se_bin oP_add v (se_bin oP_mulStr se_str (se_callTy c_int rfl (cB "int" (by decide)) (by decide +kernel) (sa_cons (se_cmp o_gt v se_int rfl) sa_nil)))) (se_callTy c_str rfl (cB "str" (by decide)) (by decide +kernel) (sa_cons v sa_nil))))))
 (sb_cons (ss_if (st_w (sw_or (st_cmp (oP_ne hu) (se_callB (c_repr gd hu) rfl (cB "repr" (by decide)) (by decide +kernel) (sa_cons (se_own (md := [false]) (ix := [0]) (ds := []) o_format_signal (.inl ⟨rfl, fun _ _ _ _ _ _ us ws h1 h2 => match us, ws, h1, h2 with | [_], [], _, _ => rfl⟩) hr gd (sa_cons v sa_nil)) sa_nil)) (se_callB (c_repr gd hu) rfl (cB "repr" (by decide)) (by decide +kernel) (sa_cons v sa_nil)) rfl) (sw_or1 (st_cmp (oP_ne hu) v v rfl))))
 (sb_one (ss_ret se_bool))
 sb_nil)
 (sb_cons (ss_set hN rfl (by first | exact .inl rfl | exact .inr rfl) (se_own (md := [false]) (ix := [0]) (ds := []) o_parse_signal (.inl ⟨rfl, fun _ _ _ _ _ _ us ws h1 h2 => match us, ws, h1, h2 with | [_], [], _, _ => rfl⟩) hr gd (sa_cons v sa_nil)))
 (sb_cons (ss_if (st_cmp (oP_ne hu) (se_callB (c_repr gd hu) rfl (cB "repr" (by decide)) (by decide +kernel) (sa_cons v sa_nil)) (se_callB (c_repr gd hu) rfl (cB "repr" (by decide)) (by decide +kernel) (sa_cons v sa_nil)) rfl)
 (sb_one (ss_ret se_bool))
 sb_nil)
 (sb_cons (ss_expr (se_meth PySem.F.slot_list_append rfl m_append v (sa_cons se_int sa_nil)))
 (sb_one (ss_ret (se_and (se_cmp (oP_eq hu) (se_callB (c_repr gd hu) rfl (cB "repr" (by decide)) (by decide +kernel) (sa_cons (se_ownK0 (ks := ["text"]) (md := [false]) (ix := [0]) (ds := []) o_parse_signal (.inl ⟨rfl, fun _ _ _ _ _ _ us ws h1 h2 => match us, ws, h1, h2 with | [], [_], _, _ => rfl⟩) hr gd (sk_cons v sk_nil)) sa_nil)) (se_callB (c_repr gd hu) rfl (cB "repr" (by decide)) (by decide +kernel) (sa_cons v sa_nil)) rfl) (se_one (se_cmp (oP_eq hu) (se_ownK0 (ks := ["signal"]) (md := [false]) (ix := [0]) (ds := []) o_format_signal (.inl ⟨rfl, fun _ _ _ _ _ _ us ws h1 h2 => match us, ws, h1, h2 with | [], [_], _, _ => rfl⟩) hr gd (sk_cons v sk_nil)) v rfl)))))))))))
theorem w_is_integer (cB : Free mg ["abs", "all", "bool", "enumerate", "int", "isinstance", "len", "list", "max", "min", "range", "repr", "str", "tuple"]) (cC : Co K mg) (cT : Tb K w mg)   (D : Def K mg "is_integer" s_is_integer []) : Own P w K mg base "is_integer" s_is_integer [] 1 ["value"] 1 m_is_integer := by
  refine own_of (N := ["value"]) D (by decide +kernel) rfl fun f cdv A outer z H hr gd => ?_
  have hN : (["value"] : List Str).Nodup := by decide +kernel
  have hu := hr.units
  have hu1 := units65 hr
  exact (sb_one (ss_ret (se_and (se_isi (T := .int) rfl (cB "isinstance" (by decide)) rfl (cB "int" (by decide)) (by decide +kernel) v) (se_one (se_not (se_isi (T := .bool) rfl (cB "isinstance" (by decide)) rfl (cB "bool" (by decide)) (by decide +kernel) v))))))
theorem w_shape_fault (cB : Free mg ["abs", "all", "bool", "enumerate", "int", "isinstance", "len", "list", "max", "min", "range", "repr", "str", "tuple"]) (cC : Co K mg) (cT : Tb K w mg)  (o_is_integer : Own P w K mg base "is_integer" s_is_integer [] 1 ["value"] 1 m_is_integer) (D : Def K mg "shape_fault" s_shape_fault []) : Own P w K mg base "shape_fault" s_shape_fault [] 2 ["value"] 1 m_shape_fault := by
  refine own_of (N := ["value"]) D (by decide +kernel) rfl fun f cdv A outer z H hr gd => ?_
  have hN : (["value"] : List Str).Nodup := by decide +kernel
  have hu := hr.units
  have hu1 := units65 hr
  exact (sb_cons (ss_if (st_w (sw_or (st_not (st_truth (se_isi (T := .tuple) rfl (cB "isinstance" (by decide)) rfl (cB "tuple" (by decide)) (by decide +kernel) v))) (sw_or1 (st_cmp (oP_ne hu) (se_callB c_len rfl (cB "len" (by decide)) (by decide +kernel) (sa_cons v sa_nil)) se_int rfl))))
 (sb_one (ss_ret (se_tup (sa_cons se_none sa_nil))))
 sb_nil)
 (sb_cons (ss_if (st_w (sw_or (st_not (st_truth (se_own (md := [false]) (ix := [0]) (ds := []) o_is_integer (.inl ⟨rfl, fun _ _ _ _ _ _ us ws h1 h2 => match us, ws, h1, h2 with | [_], [], _, _ => rfl⟩) hr gd (sa_cons (se_ix v se_int (fun _ _ => rfl)) sa_nil)))) (sw_or1 (st_not (st_chain o_le o_le se_int (se_ix v se_int (fun _ _ => rfl)) se_int)))))
 (sb_one (ss_ret (se_tup (sa_cons se_int sa_nil))))
 sb_nil)
 (sb_cons (ss_if (st_w (sw_or (st_not (st_truth (se_isi (T := .str) rfl (cB "isinstance" (by decide)) rfl (cB "str" (by decide)) (by decide +kernel) (se_ix v se_int (fun _ _ => rfl))))) (sw_or1 (st_cmp (oP_notIn hu1) (se_ix v se_int (fun _ _ => rfl)) (se_con (cC.PARITIES)) rfl))))
 (sb_one (ss_ret (se_tup (sa_cons se_int sa_nil))))
 sb_nil)
 (sb_cons (ss_if (st_w (sw_or (st_not (st_truth (se_own (md := [false]) (ix := [0]) (ds := []) o_is_integer (.inl ⟨rfl, fun _ _ _ _ _ _ us ws h1 h2 => match us, ws, h1, h2 with | [_], [], _, _ => rfl⟩) hr gd (sa_cons (se_ix v se_int (fun _ _ => rfl)) sa_nil)))) (sw_or1 (st_not (st_chain o_le o_le se_int (se_ix v se_int (fun _ _ => rfl)) se_int)))))
 (sb_one (ss_ret (se_tup (sa_cons se_int sa_nil))))
 sb_nil)
 (sb_one (ss_ret (se_tup sa_nil)))))))
theorem w_require_shape (cB : Free mg ["abs", "all", "bool", "enumerate", "int", "isinstance", "len", "list", "max", "min", "range", "repr", "str", "tuple"]) (cC : Co K mg) (cT : Tb K w mg)  (o_shape_fault : Own P w K mg base "shape_fault" s_shape_fault [] 2 ["value"] 1 m_shape_fault) (D : Def K mg "require_shape" s_require_shape []) : Own P w K mg base "require_shape" s_require_shape [] 3 ["shape"] 2 m_require_shape := by
  refine own_of (N := ["shape", "fault"]) D (by decide +kernel) rfl fun f cdv A outer z H hr gd => ?_
  have hN : (["shape", "fault"] : List Str).Nodup := by decide +kernel
  have hu := hr.units
  have hu1 := units65 hr
  exact (sb_cons (ss_set hN rfl (by first | exact .inl rfl | exact .inr rfl) (se_own (md := [false]) (ix := [0]) (ds := []) o_shape_fault (.inl ⟨rfl, fun _ _ _ _ _ _ us ws h1 h2 => match us, ws, h1, h2 with | [_], [], _, _ => rfl⟩) hr gd (sa_cons v sa_nil)))
 (sb_one (ss_if (st_cmp (oP_ne hu) v (se_tup sa_nil) rfl)
 (sb_one ss_never)
 sb_nil)))
theorem w_is_at_least (cB : Free mg ["abs", "all", "bool", "enumerate", "int", "isinstance", "len", "list", "max", "min", "range", "repr", "str", "tuple"]) (cC : Co K mg) (cT : Tb K w mg)  (o_is_integer : Own P w K mg base "is_integer" s_is_integer [] 1 ["value"] 1 m_is_integer) (D : Def K mg "is_at_least" s_is_at_least []) : Own P w K mg base "is_at_least" s_is_at_least [] 2 ["value", "least"] 2 m_is_at_least := by
  refine own_of (N := ["value", "least"]) D (by decide +kernel) rfl fun f cdv A outer z H hr gd => ?_
  have hN : (["value", "least"] : List Str).Nodup := by decide +kernel
  have hu := hr.units
  have hu1 := units65 hr
  exact (sb_one (ss_ret (se_and (se_own (md := [false]) (ix := [0]) (ds := []) o_is_integer (.inl ⟨rfl, fun _ _ _ _ _ _ us ws h1 h2 => match us, ws, h1, h2 with | [_], [], _, _ => rfl⟩) hr gd (sa_cons v sa_nil)) (se_one (se_cmp o_ge v v rfl)))))
theorem w_require_length (cB : Free mg ["abs", "all", "bool", "enumerate", "int", "isinstance", "len", "list", "max", "min", "range", "repr", "str", "tuple"]) (cC : Co K mg) (cT : Tb K w mg)  (o_is_at_least : Own P w K mg base "is_at_least" s_is_at_least [] 2 ["value", "least"] 2 m_is_at_least) (D : Def K mg "require_length" s_require_length []) : Own P w K mg base "require_length" s_require_length [] 3 ["length"] 1 m_require_length := by
  refine own_of (N := ["length"]) D (by decide +kernel) rfl fun f cdv A outer z H hr gd => ?_
  have hN : (["length"] : List Str).Nodup := by decide +kernel
  have hu := hr.units
  have hu1 := units65 hr
  exact (sb_one (ss_if (st_not (st_truth (se_own (md := [false, false]) (ix := [0, 1]) (ds := []) o_is_at_least (.inl ⟨rfl, fun _ _ _ _ _ _ us ws h1 h2 => match us, ws, h1, h2 with | [_, _], [], _, _ => rfl⟩) hr gd (sa_cons v (sa_cons se_int sa_nil)))))
 (sb_one ss_never)
 sb_nil))
theorem w_fits_shape (cB : Free mg ["abs", "all", "bool", "enumerate", "int", "isinstance", "len", "list", "max", "min", "range", "repr", "str", "tuple"]) (cC : Co K mg) (cT : Tb K w mg)  (o_is_integer : Own P w K mg base "is_integer" s_is_integer [] 1 ["value"] 1 m_is_integer) (D : Def K mg "fits_shape" s_fits_shape []) : Own P w K mg base "fits_shape" s_fits_shape [] 2 ["shape", "value"] 2 m_fits_shape := by
  refine own_of (N := ["shape", "value"]) D (by decide +kernel) rfl fun f cdv A outer z H hr gd => ?_
  have hN : (["shape", "value"] : List Str).Nodup := by decide +kernel
  have hu := hr.units
  have hu1 := units65 hr
  exact (sb_one (ss_ret (se_and (se_own (md := [false]) (ix := [0]) (ds := []) o_is_integer (.inl ⟨rfl, fun _ _ _ _ _ _ us ws h1 h2 => match us, ws, h1, h2 with | [_], [], _, _ => rfl⟩) hr gd (sa_cons v sa_nil)) (se_one (se_chain o_le o_lt se_int v (se_bin o_shl se_int (se_ix v se_int (fun _ _ => rfl))))))))
theorem w_sending_item (cB : Free mg ["abs", "all", "bool", "enumerate", "int", "isinstance", "len", "list", "max", "min", "range", "repr", "str", "tuple"]) (cC : Co K mg) (cT : Tb K w mg)  (o_integer_of : Own P w K mg base "integer_of" s_integer_of [] 1 ["word"] 3 m_integer_of) (o_fits_shape : Own P w K mg base "fits_shape" s_fits_shape [] 2 ["shape", "value"] 2 m_fits_shape) (D : Def K mg "sending_item" s_sending_item []) : Own P w K mg base "sending_item" s_sending_item [] 3 ["shape", "word"] 5 m_sending_item := by
  refine own_of (N := ["shape", "word", "parts", "tick", "number"]) D (by decide +kernel) rfl fun f cdv A outer z H hr gd => ?_
  have hN : (["shape", "word", "parts", "tick", "number"] : List Str).Nodup := by decide +kernel
  have hu := hr.units
  have hu1 := units65 hr
  exact (sb_cons (ss_set hN rfl (by first | exact .inl rfl | exact .inr rfl) (se_methT PySem.F.slot_str_split rfl m_split v (sa_cons se_str sa_nil)))
 (sb_cons (ss_if (st_cmp (oP_ne hu) (se_callB c_len rfl (cB "len" (by decide)) (by decide +kernel) (sa_cons v sa_nil)) se_int rfl)
 (sb_one (ss_ret se_none))
 sb_nil)
 (sb_cons (ss_par2 rfl hN rfl rfl (by decide) rfl rfl (sa_cons (se_own (md := [false]) (ix := [0]) (ds := []) o_integer_of (.inl ⟨rfl, fun _ _ _ _ _ _ us ws h1 h2 => match us, ws, h1, h2 with | [_], [], _, _ => rfl⟩) hr gd (sa_cons (se_ix v se_int (fun _ _ => rfl)) sa_nil)) (sa_cons (se_own (md := [false]) (ix := [0]) (ds := []) o_integer_of (.inl ⟨rfl, fun _ _ _ _ _ _ us ws h1 h2 => match us, ws, h1, h2 with | [_], [], _, _ => rfl⟩) hr gd (sa_cons (se_ix v se_int (fun _ _ => rfl)) sa_nil)) sa_nil)) (by rfl))
 (sb_cons (ss_if (st_w (sw_or (st_isN v) (sw_or1 (st_not (st_truth (se_own (md := [false, false]) (ix := [0, 1]) (ds := []) o_fits_shape (.inl ⟨rfl, fun _ _ _ _ _ _ us ws h1 h2 => match us, ws, h1, h2 with | [_, _], [], _, _ => rfl⟩) hr gd (sa_cons v (sa_cons v sa_nil))))))))
 (sb_one (ss_ret se_none))
 sb_nil)
 (sb_one (ss_ret (se_tup (sa_cons v (sa_cons v sa_nil)))))))))
theorem w_frame_size (cB : Free mg ["abs", "all", "bool", "enumerate", "int", "isinstance", "len", "list", "max", "min", "range", "repr", "str", "tuple"]) (cC : Co K mg) (cT : Tb K w mg)   (D : Def K mg "frame_size" s_frame_size []) : Own P w K mg base "frame_size" s_frame_size [] 1 ["shape"] 1 m_frame_size := by
  refine own_of (N := ["shape"]) D (by decide +kernel) rfl fun f cdv A outer z H hr gd => ?_
  have hN : (["shape"] : List Str).Nodup := by decide +kernel
  have hu := hr.units
  have hu1 := units65 hr
  exact (sb_one (ss_ret (se_bin oP_add (se_bin oP_add (se_bin oP_add se_int (se_ix v se_int (fun _ _ => rfl))) (se_callTy c_int rfl (cB "int" (by decide)) (by decide +kernel) (sa_cons (se_cmp (oP_ne hu) (se_ix v se_int (fun _ _ => rfl)) se_str rfl) sa_nil))) (se_ix v se_int (fun _ _ => rfl)))))
theorem w_parse_sending (cB : Free mg ["abs", "all", "bool", "enumerate", "int", "isinstance", "len", "list", "max", "min", "range", "repr", "str", "tuple"]) (cC : Co K mg) (cT : Tb K w mg)  (o_require_string : Own P w K mg base "require_string" s_require_string [] 1 ["text"] 1 m_require_string) (o_words_of : Own P w K mg base "words_of" s_words_of [] 1 ["text"] 1 m_words_of) (o_require_shape : Own P w K mg base "require_shape" s_require_shape [] 3 ["shape"] 2 m_require_shape) (o_require_length : Own P w K mg base "require_length" s_require_length [] 3 ["length"] 1 m_require_length) (o_sending_item : Own P w K mg base "sending_item" s_sending_item [] 3 ["shape", "word"] 5 m_sending_item) (o_frame_size : Own P w K mg base "frame_size" s_frame_size [] 1 ["shape"] 1 m_frame_size) (D : Def K mg "parse_sending" s_parse_sending []) : Own P w K mg base "parse_sending" s_parse_sending [] 4 ["shape", "length", "text"] 7 m_parse_sending := by
  refine own_of (N := ["shape", "length", "text", "sending", "index", "word", "item"]) D (by decide +kernel) rfl fun f cdv A outer z H hr gd => ?_
  have hN : (["shape", "length", "text", "sending", "index", "word", "item"] : List Str).Nodup := by decide +kernel
  have hu := hr.units
  have hu1 := units65 hr
  exact (sb_cons (ss_expr (se_own (md := [false]) (ix := [0]) (ds := []) o_require_shape (.inl ⟨rfl, fun _ _ _ _ _ _ us ws h1 h2 => match us, ws, h1, h2 with | [_], [], _, _ => rfl⟩) hr gd (sa_cons v sa_nil)))
 (sb_cons (ss_expr (se_own (md := [false]) (ix := [0]) (ds := []) o_require_length (.inl ⟨rfl, fun _ _ _ _ _ _ us ws h1 h2 => match us, ws, h1, h2 with | [_], [], _, _ => rfl⟩) hr gd (sa_cons v sa_nil)))
 (sb_cons (ss_expr (se_own (md := [false]) (ix := [0]) (ds := []) o_require_string (.inl ⟨rfl, fun _ _ _ _ _ _ us ws h1 h2 => match us, ws, h1, h2 with | [_], [], _, _ => rfl⟩) hr gd (sa_cons v sa_nil)))
 (sb_cons (ss_set hN rfl (by first | exact .inl rfl | exact .inr rfl) (se_lst sa_nil))
 (sb_cons (ss_for passN rfl (si_enum rfl (cB "enumerate" (by decide)) (sa_cons (se_own (md := [false]) (ix := [0]) (ds := []) o_words_of (.inl ⟨rfl, fun _ _ _ _ _ _ us ws h1 h2 => match us, ws, h1, h2 with | [_], [], _, _ => rfl⟩) hr gd (sa_cons v sa_nil)) sa_nil)) (t_tp rfl (ts_cons (t_nm hN) (ts_cons (t_nm hN) ts_nil)))
 (sb_cons (ss_set hN rfl (by first | exact .inl rfl | exact .inr rfl) (se_own (md := [false, false]) (ix := [0, 1]) (ds := []) o_sending_item (.inl ⟨rfl, fun _ _ _ _ _ _ us ws h1 h2 => match us, ws, h1, h2 with | [_, _], [], _, _ => rfl⟩) hr gd (sa_cons v (sa_cons v sa_nil))))
 (sb_cons (ss_if (st_w (sw_or (st_isN v) (sw_or1 (st_cmp o_ge v (se_con (cC.MOST_NUMBERS)) rfl))))
 (sb_one ss_never)
 sb_nil)
 (sb_cons (ss_if (st_w (sw_and (st_cmp (oP_ne hu) v (se_lst sa_nil) rfl) (sw_and1 (st_cmp o_lt (se_ix v se_int (fun _ _ => rfl)) (se_bin oP_add (se_ix (se_ix v (se_neg se_int) (fun _ _ => rfl)) se_int (fun _ _ => rfl)) (se_bin oP_mul (se_own (md := [false]) (ix := [0]) (ds := []) o_frame_size (.inl ⟨rfl, fun _ _ _ _ _ _ us ws h1 h2 => match us, ws, h1, h2 with | [_], [], _, _ => rfl⟩) hr gd (sa_cons v sa_nil)) v)) rfl))))
 (sb_one ss_never)
 sb_nil)
 (sb_one (ss_expr (se_meth PySem.F.slot_list_append rfl m_append v (sa_cons v sa_nil))))))))
 (sb_one (ss_ret v)))))))
theorem w__law_shape (cB : Free mg ["abs", "all", "bool", "enumerate", "int", "isinstance", "len", "list", "max", "min", "range", "repr", "str", "tuple"]) (cC : Co K mg) (cT : Tb K w mg)  (o__law_draw : Own P w K mg base "_law_draw" s__law_draw [] 1 ["_law_source_here", "_law_many"] 4 m__law_draw) (D : Def K mg "_law_shape" s__law_shape []) : Own P w K mg base "_law_shape" s__law_shape [] 2 ["_law_source_here"] 2 m__law_shape := by
  refine own_of (N := ["_law_source_here", "_law_parity"]) D (by decide +kernel) rfl fun f cdv A outer z H hr gd => ?_
  have hN : (["_law_source_here", "_law_parity"] : List Str).Nodup := by decide +kernel
  have hu := hr.units
  have hu1 := units65 hr
  exact (sb_cons (ss_set hN rfl (by first | exact .inl rfl | exact .inr rfl) (se_ix (se_lst (sa_cons se_str (sa_cons se_str (sa_cons se_str sa_nil)))) (se_own (md := [true, false]) (ix := [0, 1]) (ds := []) o__law_draw (.inl ⟨rfl, fun _ _ _ _ _ _ us ws h1 h2 => match us, ws, h1, h2 with | [_, _], [], _, _ => rfl⟩) hr gd (sa_cons v (sa_cons se_int sa_nil))) (fun _ _ => rfl)))
 (sb_one (ss_ret (se_tup (sa_cons (se_bin oP_add se_int (se_own (md := [true, false]) (ix := [0, 1]) (ds := []) o__law_draw (.inl ⟨rfl, fun _ _ _ _ _ _ us ws h1 h2 => match us, ws, h1, h2 with | [_, _], [], _, _ => rfl⟩) hr gd (sa_cons v (sa_cons se_int sa_nil)))) (sa_cons v (sa_cons (se_bin oP_add se_int (se_own (md := [true, false]) (ix := [0, 1]) (ds := []) o__law_draw (.inl ⟨rfl, fun _ _ _ _ _ _ us ws h1 h2 => match us, ws, h1, h2 with | [_, _], [], _, _ => rfl⟩) hr gd (sa_cons v (sa_cons se_int sa_nil)))) sa_nil)))))))
theorem w__law_text (cB : Free mg ["abs", "all", "bool", "enumerate", "int", "isinstance", "len", "list", "max", "min", "range", "repr", "str", "tuple"]) (cC : Co K mg) (cT : Tb K w mg)  (o__law_draw : Own P w K mg base "_law_draw" s__law_draw [] 1 ["_law_source_here", "_law_many"] 4 m__law_draw) (D : Def K mg "_law_text" s__law_text []) : Own P w K mg base "_law_text" s__law_text [] 2 ["_law_source_here", "_law_form", "_law_many"] 6 m__law_text := by
  refine own_of (N := ["_law_source_here", "_law_form", "_law_many", "_law_most", "_law_turn", "_law_found"]) D (by decide +kernel) rfl fun f cdv A outer z H hr gd => ?_
  have hN : (["_law_source_here", "_law_form", "_law_many", "_law_most", "_law_turn", "_law_found"] : List Str).Nodup := by decide +kernel
  have hu := hr.units
  have hu1 := units65 hr
  exact (sb_cons (ss_set hN rfl (by first | exact .inl rfl | exact .inr rfl) se_int)
 (sb_cons (ss_for passN rfl (si_rng1 rfl (cB "range" (by decide)) (sa_cons (se_ix v se_int (fun _ _ => rfl)) sa_nil)) (t_nm hN)
 (sb_one (ss_set hN rfl (by first | exact .inl rfl | exact .inr rfl) (se_bin oP_mul se_int v))))
 (sb_cons (ss_set hN rfl (by first | exact .inl rfl | exact .inr rfl) (se_lst sa_nil))
 (sb_cons (ss_for passN rfl (si_rng1 rfl (cB "range" (by decide)) (sa_cons v sa_nil)) (t_nm hN)
 (sb_one (ss_expr (se_meth PySem.F.slot_list_append rfl m_append v (sa_cons (se_ix (se_lst (sa_cons se_int (sa_cons (se_bin o_sub v se_int) (sa_cons (se_own (md := [true, false]) (ix := [0, 1]) (ds := []) o__law_draw (.inl ⟨rfl, fun _ _ _ _ _ _ us ws h1 h2 => match us, ws, h1, h2 with | [_, _], [], _, _ => rfl⟩) hr gd (sa_cons v (sa_cons v sa_nil))) (sa_cons (se_own (md := [true, false]) (ix := [0, 1]) (ds := []) o__law_draw (.inl ⟨rfl, fun _ _ _ _ _ _ us ws h1 h2 => match us, ws, h1, h2 with | [_, _], [], _, _ => rfl⟩) hr gd (sa_cons v (sa_cons v sa_nil))) sa_nil))))) (se_own (md := [true, false]) (ix := [0, 1]) (ds := []) o__law_draw (.inl ⟨rfl, fun _ _ _ _ _ _ us ws h1 h2 => match us, ws, h1, h2 with | [_, _], [], _, _ => rfl⟩) hr gd (sa_cons v (sa_cons se_int sa_nil))) (fun _ _ => rfl)) sa_nil)))))
 (sb_one (ss_ret v))))))
theorem w__law_size (cB : Free mg ["abs", "all", "bool", "enumerate", "int", "isinstance", "len", "list", "max", "min", "range", "repr", "str", "tuple"]) (cC : Co K mg) (cT : Tb K w mg)   (D : Def K mg "_law_size" s__law_size []) : Own P w K mg base "_law_size" s__law_size [] 1 ["_law_form"] 1 m__law_size := by
  refine own_of (N := ["_law_form"]) D (by decide +kernel) rfl fun f cdv A outer z H hr gd => ?_
  have hN : (["_law_form"] : List Str).Nodup := by decide +kernel
  have hu := hr.units
  have hu1 := units65 hr
  exact (sb_one (ss_ret (se_bin oP_add (se_bin oP_add (se_bin oP_add se_int (se_ix v se_int (fun _ _ => rfl))) (se_callTy c_int rfl (cB "int" (by decide)) (by decide +kernel) (sa_cons (se_cmp (oP_ne hu) (se_ix v se_int (fun _ _ => rfl)) se_str rfl) sa_nil))) (se_ix v se_int (fun _ _ => rfl)))))
theorem w__law_sending (cB : Free mg ["abs", "all", "bool", "enumerate", "int", "isinstance", "len", "list", "max", "min", "range", "repr", "str", "tuple"]) (cC : Co K mg) (cT : Tb K w mg)  (o__law_draw : Own P w K mg base "_law_draw" s__law_draw [] 1 ["_law_source_here", "_law_many"] 4 m__law_draw) (o__law_text : Own P w K mg base "_law_text" s__law_text [] 2 ["_law_source_here", "_law_form", "_law_many"] 6 m__law_text) (o__law_size : Own P w K mg base "_law_size" s__law_size [] 1 ["_law_form"] 1 m__law_size) (D : Def K mg "_law_sending" s__law_sending []) : Own P w K mg base "_law_sending" s__law_sending [] 3 ["_law_source_here", "_law_form", "_law_bit", "_law_many"] 8 m__law_sending := by
  refine own_of (N := ["_law_source_here", "_law_form", "_law_bit", "_law_many", "_law_tick", "_law_found", "_law_number", "_law_gap"]) D (by decide +kernel) rfl fun f cdv A outer z H hr gd => ?_
  have hN : (["_law_source_here", "_law_form", "_law_bit", "_law_many", "_law_tick", "_law_found", "_law_number", "_law_gap"] : List Str).Nodup := by decide +kernel
  have hu := hr.units
  have hu1 := units65 hr
  exact (sb_cons (ss_par2 rfl hN rfl rfl (by decide) rfl rfl (sa_cons (se_bin o_sub (se_ix (se_lst (sa_cons se_int (sa_cons (se_neg (se_bin o_pow se_int se_int)) (sa_cons (se_bin o_pow se_int se_int) (sa_cons se_int sa_nil))))) (se_own (md := [true, false]) (ix := [0, 1]) (ds := []) o__law_draw (.inl ⟨rfl, fun _ _ _ _ _ _ us ws h1 h2 => match us, ws, h1, h2 with | [_, _], [], _, _ => rfl⟩) hr gd (sa_cons v (sa_cons se_int sa_nil))) (fun _ _ => rfl)) (se_own (md := [true, false]) (ix := [0, 1]) (ds := []) o__law_draw (.inl ⟨rfl, fun _ _ _ _ _ _ us ws h1 h2 => match us, ws, h1, h2 with | [_, _], [], _, _ => rfl⟩) hr gd (sa_cons v (sa_cons se_int sa_nil)))) (sa_cons (se_lst sa_nil) sa_nil)) (by rfl))
 (sb_cons (ss_for passN rfl (si_seq (se_own (md := [true, false, false]) (ix := [0, 1, 2]) (ds := []) o__law_text (.inl ⟨rfl, fun _ _ _ _ _ _ us ws h1 h2 => match us, ws, h1, h2 with | [_, _, _], [], _, _ => rfl⟩) hr gd (sa_cons v (sa_cons v (sa_cons v sa_nil))))) (t_nm hN)
 (sb_cons (ss_expr (se_meth PySem.F.slot_list_append rfl m_append v (sa_cons (se_tup (sa_cons v (sa_cons v sa_nil))) sa_nil)))
 (sb_cons (ss_set hN rfl (by first | exact .inl rfl | exact .inr rfl) (se_ix (se_lst (sa_cons se_int (sa_cons se_int (sa_cons se_int (sa_cons (se_own (md := [true, false]) (ix := [0, 1]) (ds := []) o__law_draw (.inl ⟨rfl, fun _ _ _ _ _ _ us ws h1 h2 => match us, ws, h1, h2 with | [_, _], [], _, _ => rfl⟩) hr gd (sa_cons v (sa_cons se_int sa_nil))) (sa_cons (se_own (md := [true, false]) (ix := [0, 1]) (ds := []) o__law_draw (.inl ⟨rfl, fun _ _ _ _ _ _ us ws h1 h2 => match us, ws, h1, h2 with | [_, _], [], _, _ => rfl⟩) hr gd (sa_cons v (sa_cons (se_bin oP_mul se_int v) sa_nil))) sa_nil)))))) (se_own (md := [true, false]) (ix := [0, 1]) (ds := []) o__law_draw (.inl ⟨rfl, fun _ _ _ _ _ _ us ws h1 h2 => match us, ws, h1, h2 with | [_, _], [], _, _ => rfl⟩) hr gd (sa_cons v (sa_cons se_int sa_nil))) (fun _ _ => rfl)))
 (sb_one (ss_set hN rfl (by first | exact .inl rfl | exact .inr rfl) (se_bin oP_add (se_bin oP_add v (se_bin oP_mul (se_own (md := [false]) (ix := [0]) (ds := []) o__law_size (.inl ⟨rfl, fun _ _ _ _ _ _ us ws h1 h2 => match us, ws, h1, h2 with | [_], [], _, _ => rfl⟩) hr gd (sa_cons v sa_nil)) v)) v))))))
 (sb_one (ss_ret v))))
theorem w_format_sending (cB : Free mg ["abs", "all", "bool", "enumerate", "int", "isinstance", "len", "list", "max", "min", "range", "repr", "str", "tuple"]) (cC : Co K mg) (cT : Tb K w mg)   (D : Def K mg "format_sending" s_format_sending []) : Own P w K mg base "format_sending" s_format_sending [] 1 ["sending"] 3 m_format_sending := by
  refine own_of (N := ["sending", "tick", "number"]) D (by decide +kernel) rfl fun f cdv A outer z H hr gd => ?_
  have hN : (["sending", "tick", "number"] : List Str).Nodup := by decide +kernel
  have hu := hr.units
  have hu1 := units65 hr
  exact (sb_one (ss_ret (se_methT PySem.F.slot_str_join rfl m_join se_str (sa_cons (se_comp rfl hN (si_seq v) (blkOk_by (N := ["sending", "tick", "number"]) (sc := defScope s_format_sending) (own := [("tick", 1), ("number", 2)]) (by decide +kernel)) rfl (by decide) (fun _ _ _ _ _ => (t_tp rfl (ts_cons (t_nm hN) (ts_cons (t_nm hN) ts_nil)))) (fun _ _ _ _ _ => sts_nil) (fun _ _ _ _ _ => (se_js (.cons (se_fmt v) (.cons se_str (.cons (se_fmt v) .nil)))))) sa_nil))))
theorem w__law_sending_right (cB : Free mg ["abs", "all", "bool", "enumerate", "int", "isinstance", "len", "list", "max", "min", "range", "repr", "str", "tuple"]) (cC : Co K mg) (cT : Tb K w mg)  (o__law_draw : Own P w K mg base "_law_draw" s__law_draw [] 1 ["_law_source_here", "_law_many"] 4 m__law_draw) (o_parse_sending : Own P w K mg base "parse_sending" s_parse_sending [] 4 ["shape", "length", "text"] 7 m_parse_sending) (o__law_shape : Own P w K mg base "_law_shape" s__law_shape [] 2 ["_law_source_here"] 2 m__law_shape) (o__law_sending : Own P w K mg base "_law_sending" s__law_sending [] 3 ["_law_source_here", "_law_form", "_law_bit", "_law_many"] 8 m__law_sending) (o_format_sending : Own P w K mg base "format_sending" s_format_sending [] 1 ["sending"] 3 m_format_sending) (D : Def K mg "_law_sending_right" s__law_sending_right []) : Own P w K mg base "_law_sending_right" s__law_sending_right [] 5 ["_law_source_here", "_law_many"] 11 m__law_sending_right := by
  refine own_of (N := ["_law_source_here", "_law_many", "_law_form", "_law_bit", "_law_frames", "_law_words", "_law_tick", "_law_number", "_law_due", "_law_passed", "_law_found"]) D (by decide +kernel) rfl fun f cdv A outer z H hr gd => ?_
  have hN : (["_law_source_here", "_law_many", "_law_form", "_law_bit", "_law_frames", "_law_words", "_law_tick", "_law_number", "_law_due", "_law_passed", "_law_found"] : List Str).Nodup := by decide +kernel
  have hu := hr.units
  have hu1 := units65 hr
  exact (sb_cons (ss_par2 rfl hN rfl rfl (by decide) rfl rfl (sa_cons (se_own (md := [true]) (ix := [0]) (ds := []) o__law_shape (.inl ⟨rfl, fun _ _ _ _ _ _ us ws h1 h2 => match us, ws, h1, h2 with | [_], [], _, _ => rfl⟩) hr gd (sa_cons v sa_nil)) (sa_cons (se_bin oP_add se_int (se_own (md := [true, false]) (ix := [0, 1]) (ds := []) o__law_draw (.inl ⟨rfl, fun _ _ _ _ _ _ us ws h1 h2 => match us, ws, h1, h2 with | [_, _], [], _, _ => rfl⟩) hr gd (sa_cons v (sa_cons (se_ix (se_lst (sa_cons se_int (sa_cons se_int (sa_cons (se_bin o_pow se_int se_int) sa_nil)))) (se_own (md := [true, false]) (ix := [0, 1]) (ds := []) o__law_draw (.inl ⟨rfl, fun _ _ _ _ _ _ us ws h1 h2 => match us, ws, h1, h2 with | [_, _], [], _, _ => rfl⟩) hr gd (sa_cons v (sa_cons se_int sa_nil))) (fun _ _ => rfl)) sa_nil)))) sa_nil)) (by rfl))
 (sb_cons (ss_par2 rfl hN rfl rfl (by decide) rfl rfl (sa_cons (se_own (md := [true, false, false, false]) (ix := [0, 1, 2, 3]) (ds := []) o__law_sending (.inl ⟨rfl, fun _ _ _ _ _ _ us ws h1 h2 => match us, ws, h1, h2 with | [_, _, _, _], [], _, _ => rfl⟩) hr gd (sa_cons v (sa_cons v (sa_cons v (sa_cons v sa_nil))))) (sa_cons (se_lst sa_nil) sa_nil)) (by rfl))
 (sb_cons (ss_for passN rfl (si_seq v) (t_tp rfl (ts_cons (t_nm hN) (ts_cons (t_nm hN) ts_nil)))
 (sb_one (ss_expr (se_meth PySem.F.slot_list_append rfl m_append v (sa_cons (se_bin oP_add (se_bin oP_add (se_callTy c_str rfl (cB "str" (by decide)) (by decide +kernel) (sa_cons v sa_nil)) se_str) (se_callTy c_str rfl (cB "str" (by decide)) (by decide +kernel) (sa_cons v sa_nil))) sa_nil)))))
 (sb_cons (ss_par2 rfl hN rfl rfl (by decide) rfl rfl (sa_cons (se_methT PySem.F.slot_str_join rfl m_join se_str (sa_cons v sa_nil)) (sa_cons (se_callTy c_list rfl (cB "list" (by decide)) (by decide +kernel) (sa_cons v sa_nil)) sa_nil)) (by rfl))
 (sb_cons (ss_if (st_w (sw_or (st_cmp (oP_ne hu) (se_callB (c_repr gd hu) rfl (cB "repr" (by decide)) (by decide +kernel) (sa_cons (se_own (md := [false]) (ix := [0]) (ds := []) o_format_sending (.inl ⟨rfl, fun _ _ _ _ _ _ us ws h1 h2 => match us, ws, h1, h2 with | [_], [], _, _ => rfl⟩) hr gd (sa_cons v sa_nil)) sa_nil)) (se_callB (c_repr gd hu) rfl (cB "repr" (by decide)) (by decide +kernel) (sa_cons v sa_nil)) rfl) (sw_or1 (st_cmp (oP_ne hu) v v rfl))))
 (sb_one (ss_ret se_bool))
 sb_nil)
 (sb_cons (ss_set hN rfl (by first | exact .inl rfl | exact .inr rfl) (se_own (md := [false, false, false]) (ix := [0, 1, 2]) (ds := []) o_parse_sending (.inl ⟨rfl, fun _ _ _ _ _ _ us ws h1 h2 => match us, ws, h1, h2 with | [_, _, _], [], _, _ => rfl⟩) hr gd (sa_cons v (sa_cons v (sa_cons v sa_nil)))))
 (sb_cons (ss_if (st_cmp (oP_ne hu) (se_callB (c_repr gd hu) rfl (cB "repr" (by decide)) (by decide +kernel) (sa_cons v sa_nil)) (se_callB (c_repr gd hu) rfl (cB "repr" (by decide)) (by decide +kernel) (sa_cons v sa_nil)) rfl)
 (sb_one (ss_ret se_bool))
 sb_nil)
 (sb_cons (ss_expr (se_meth PySem.F.slot_list_append rfl m_append v (sa_cons (se_tup (sa_cons se_int (sa_cons se_int sa_nil))) sa_nil)))
 (sb_cons (ss_if (st_cmp (oP_ne hu) (se_callB (c_repr gd hu) rfl (cB "repr" (by decide)) (by decide +kernel) (sa_cons (se_ownK0 (ks := ["text", "length", "shape"]) (md := [false, false, false]) (ix := [2, 1, 0]) (ds := []) o_parse_sending (.inl ⟨rfl, fun _ _ _ _ _ _ us ws h1 h2 => match us, ws, h1, h2 with | [], [_, _, _], _, _ => rfl⟩) hr gd (sk_cons v (sk_cons v (sk_cons v sk_nil)))) sa_nil)) (se_callB (c_repr gd hu) rfl (cB "repr" (by decide)) (by decide +kernel) (sa_cons v sa_nil)) rfl)
 (sb_one (ss_ret se_bool))
 sb_nil)
 (sb_one (ss_ret (se_and (se_cmp (oP_eq hu) (se_callB (c_repr gd hu) rfl (cB "repr" (by decide)) (by decide +kernel) (sa_cons (se_own (md := [false, false, false]) (ix := [0, 1, 2]) (ds := []) o_parse_sending (.inl ⟨rfl, fun _ _ _ _ _ _ us ws h1 h2 => match us, ws, h1, h2 with | [_, _, _], [], _, _ => rfl⟩) hr gd (sa_cons v (sa_cons se_int (sa_cons v sa_nil)))) sa_nil)) (se_callB (c_repr gd hu) rfl (cB "repr" (by decide)) (by decide +kernel) (sa_cons v sa_nil)) rfl) (se_one (se_cmp (oP_eq hu) (se_ownK0 (ks := ["sending"]) (md := [false]) (ix := [0]) (ds := []) o_format_sending (.inl ⟨rfl, fun _ _ _ _ _ _ us ws h1 h2 => match us, ws, h1, h2 with | [], [_], _, _ => rfl⟩) hr gd (sk_cons v sk_nil)) v rfl))))))))))))))
theorem w_format_shape (cB : Free mg ["abs", "all", "bool", "enumerate", "int", "isinstance", "len", "list", "max", "min", "range", "repr", "str", "tuple"]) (cC : Co K mg) (cT : Tb K w mg)   (D : Def K mg "format_shape" s_format_shape []) : Own P w K mg base "format_shape" s_format_shape [] 1 ["shape"] 1 m_format_shape := by
  refine own_of (N := ["shape"]) D (by decide +kernel) rfl fun f cdv A outer z H hr gd => ?_
  have hN : (["shape"] : List Str).Nodup := by decide +kernel
  have hu := hr.units
  have hu1 := units65 hr
  exact (sb_one (ss_ret (se_bin oP_add (se_bin oP_add (se_callTy c_str rfl (cB "str" (by decide)) (by decide +kernel) (sa_cons (se_ix v se_int (fun _ _ => rfl)) sa_nil)) (se_ix (se_ix v se_int (fun _ _ => rfl)) se_int (fun _ _ => rfl))) (se_callTy c_str rfl (cB "str" (by decide)) (by decide +kernel) (sa_cons (se_ix v se_int (fun _ _ => rfl)) sa_nil)))))
theorem w_shape_of (cB : Free mg ["abs", "all", "bool", "enumerate", "int", "isinstance", "len", "list", "max", "min", "range", "repr", "str", "tuple"]) (cC : Co K mg) (cT : Tb K w mg)   (D : Def K mg "shape_of" s_shape_of []) : Own P w K mg base "shape_of" s_shape_of [] 1 ["word"] 1 m_shape_of := by
  refine own_of (N := ["word"]) D (by decide +kernel) rfl fun f cdv A outer z H hr gd => ?_
  have hN : (["word"] : List Str).Nodup := by decide +kernel
  have hu := hr.units
  have hu1 := units65 hr
  exact (sb_cons (ss_if (st_w (sw_or (st_cmp (oP_ne hu) (se_callB c_len rfl (cB "len" (by decide)) (by decide +kernel) (sa_cons v sa_nil)) se_int rfl) (sw_or (st_cmp oP_notInS (se_ix v se_int (fun _ _ => rfl)) se_str rfl) (sw_or (st_notTab (cT.PARITY_OF_LETTER) (se_ix v se_int (fun _ _ => rfl))) (sw_or1 (st_cmp oP_notInS (se_ix v se_int (fun _ _ => rfl)) se_str rfl))))))
 (sb_one (ss_ret se_none))
 sb_nil)
 (sb_one (ss_ret (se_tup (sa_cons (se_callTy c_intT rfl (cB "int" (by decide)) (by decide +kernel) (sa_cons (se_ix v se_int (fun _ _ => rfl)) sa_nil)) (sa_cons (se_ixTab (cT.PARITY_OF_LETTER) (se_ix v se_int (fun _ _ => rfl)) (fun _ _ => rfl)) (sa_cons (se_callTy c_intT rfl (cB "int" (by decide)) (by decide +kernel) (sa_cons (se_ix v se_int (fun _ _ => rfl)) sa_nil)) sa_nil)))))))
theorem w_parse_shape (cB : Free mg ["abs", "all", "bool", "enumerate", "int", "isinstance", "len", "list", "max", "min", "range", "repr", "str", "tuple"]) (cC : Co K mg) (cT : Tb K w mg)  (o_require_string : Own P w K mg base "require_string" s_require_string [] 1 ["text"] 1 m_require_string) (o_shape_of : Own P w K mg base "shape_of" s_shape_of [] 1 ["word"] 1 m_shape_of) (D : Def K mg "parse_shape" s_parse_shape []) : Own P w K mg base "parse_shape" s_parse_shape [] 2 ["text"] 3 m_parse_shape := by
  refine own_of (N := ["text", "words", "shape"]) D (by decide +kernel) rfl fun f cdv A outer z H hr gd => ?_
  have hN : (["text", "words", "shape"] : List Str).Nodup := by decide +kernel
  have hu := hr.units
  have hu1 := units65 hr
  exact (sb_cons (ss_expr (se_own (md := [false]) (ix := [0]) (ds := []) o_require_string (.inl ⟨rfl, fun _ _ _ _ _ _ us ws h1 h2 => match us, ws, h1, h2 with | [_], [], _, _ => rfl⟩) hr gd (sa_cons v sa_nil)))
 (sb_cons (ss_set hN rfl (by first | exact .inl rfl | exact .inr rfl) (se_methT PySem.F.slot_str_split rfl m_split v (sa_cons se_str sa_nil)))
 (sb_cons (ss_set hN rfl (by first | exact .inl rfl | exact .inr rfl) (se_own (md := [false]) (ix := [0]) (ds := []) o_shape_of (.inl ⟨rfl, fun _ _ _ _ _ _ us ws h1 h2 => match us, ws, h1, h2 with | [_], [], _, _ => rfl⟩) hr gd (sa_cons (se_ix v se_int (fun _ _ => rfl)) sa_nil)))
 (sb_cons (ss_if (st_isN v)
 (sb_one ss_never)
 sb_nil)
 (sb_cons (ss_if (st_cmp o_gt (se_callB c_len rfl (cB "len" (by decide)) (by decide +kernel) (sa_cons v sa_nil)) se_int rfl)
 (sb_one ss_never)
 sb_nil)
 (sb_one (ss_ret v)))))))
theorem w__law_shapes_right (cB : Free mg ["abs", "all", "bool", "enumerate", "int", "isinstance", "len", "list", "max", "min", "range", "repr", "str", "tuple"]) (cC : Co K mg) (cT : Tb K w mg)  (o_format_shape : Own P w K mg base "format_shape" s_format_shape [] 1 ["shape"] 1 m_format_shape) (o_parse_shape : Own P w K mg base "parse_shape" s_parse_shape [] 2 ["text"] 3 m_parse_shape) (D : Def K mg "_law_shapes_right" s__law_shapes_right []) : Own P w K mg base "_law_shapes_right" s__law_shapes_right [] 3 [] 6 m__law_shapes_right := by
  refine own_of (N := ["_law_bits", "_law_letter", "_law_parity", "_law_stops", "_law_form", "_law_written"]) D (by decide +kernel) rfl fun f cdv A outer z H hr gd => ?_
  have hN : (["_law_bits", "_law_letter", "_law_parity", "_law_stops", "_law_form", "_law_written"] : List Str).Nodup := by decide +kernel
  have hu := hr.units
  have hu1 := units65 hr
  exact (sb_cons (ss_for passN rfl (si_rng2 rfl (cB "range" (by decide)) (sa_cons se_int (sa_cons se_int sa_nil))) (t_nm hN)
 (sb_one (ss_for passN rfl (si_seq (se_tup (sa_cons (se_tup (sa_cons se_str (sa_cons se_str sa_nil))) (sa_cons (se_tup (sa_cons se_str (sa_cons se_str sa_nil))) (sa_cons (se_tup (sa_cons se_str (sa_cons se_str sa_nil))) sa_nil))))) (t_tp rfl (ts_cons (t_nm hN) (ts_cons (t_nm hN) ts_nil)))
 (sb_one (ss_for passN rfl (si_seq (se_tup (sa_cons se_int (sa_cons se_int sa_nil)))) (t_nm hN)
 (sb_cons (ss_par2 rfl hN rfl rfl (by decide) rfl rfl (sa_cons (se_tup (sa_cons v (sa_cons v (sa_cons v sa_nil)))) (sa_cons (se_bin oP_add (se_bin oP_add (se_ix se_str v (fun _ _ => rfl)) v) (se_ix se_str v (fun _ _ => rfl))) sa_nil)) (by rfl))
 (sb_one (ss_if (st_w (sw_or (st_cmp (oP_ne hu) (se_callB (c_repr gd hu) rfl (cB "repr" (by decide)) (by decide +kernel) (sa_cons (se_own (md := [false]) (ix := [0]) (ds := []) o_format_shape (.inl ⟨rfl, fun _ _ _ _ _ _ us ws h1 h2 => match us, ws, h1, h2 with | [_], [], _, _ => rfl⟩) hr gd (sa_cons v sa_nil)) sa_nil)) (se_callB (c_repr gd hu) rfl (cB "repr" (by decide)) (by decide +kernel) (sa_cons v sa_nil)) rfl) (sw_or1 (st_cmp (oP_ne hu) (se_callB (c_repr gd hu) rfl (cB "repr" (by decide)) (by decide +kernel) (sa_cons (se_own (md := [false]) (ix := [0]) (ds := []) o_parse_shape (.inl ⟨rfl, fun _ _ _ _ _ _ us ws h1 h2 => match us, ws, h1, h2 with | [_], [], _, _ => rfl⟩) hr gd (sa_cons v sa_nil)) sa_nil)) (se_callB (c_repr gd hu) rfl (cB "repr" (by decide)) (by decide +kernel) (sa_cons v sa_nil)) rfl))))
 (sb_one (ss_ret se_bool))
 sb_nil))))))))
 (sb_one (ss_ret (se_and (se_cmp (oP_eq hu) (se_ownK0 (ks := ["shape"]) (md := [false]) (ix := [0]) (ds := []) o_format_shape (.inl ⟨rfl, fun _ _ _ _ _ _ us ws h1 h2 => match us, ws, h1, h2 with | [], [_], _, _ => rfl⟩) hr gd (sk_cons (se_tup (sa_cons se_int (sa_cons se_str (sa_cons se_int sa_nil)))) sk_nil)) se_str rfl) (se_one (se_cmp (oP_eq hu) (se_ownK0 (ks := ["text"]) (md := [false]) (ix := [0]) (ds := []) o_parse_shape (.inl ⟨rfl, fun _ _ _ _ _ _ us ws h1 h2 => match us, ws, h1, h2 with | [], [_], _, _ => rfl⟩) hr gd (sk_cons se_str sk_nil)) (se_tup (sa_cons se_int (sa_cons se_str (sa_cons se_int sa_nil)))) rfl))))))
theorem w_signal_fault (cB : Free mg ["abs", "all", "bool", "enumerate", "int", "isinstance", "len", "list", "max", "min", "range", "repr", "str", "tuple"]) (cC : Co K mg) (cT : Tb K w mg)  (o_is_integer : Own P w K mg base "is_integer" s_is_integer [] 1 ["value"] 1 m_is_integer) (D : Def K mg "signal_fault" s_signal_fault []) : Own P w K mg base "signal_fault" s_signal_fault [] 2 ["value", "most"] 4 m_signal_fault := by
  refine own_of (N := ["value", "most", "index", "tick"]) D (by decide +kernel) rfl fun f cdv A outer z H hr gd => ?_
  have hN : (["value", "most", "index", "tick"] : List Str).Nodup := by decide +kernel
  have hu := hr.units
  have hu1 := units65 hr
  exact (sb_cons (ss_if (st_w (sw_or (st_not (st_truth (se_isi (T := .list) rfl (cB "isinstance" (by decide)) rfl (cB "list" (by decide)) (by decide +kernel) v))) (sw_or1 (st_cmp o_gt (se_callB c_len rfl (cB "len" (by decide)) (by decide +kernel) (sa_cons v sa_nil)) v rfl))))
 (sb_one (ss_ret (se_tup (sa_cons se_none sa_nil))))
 sb_nil)
 (sb_cons (ss_for passN rfl (si_enum rfl (cB "enumerate" (by decide)) (sa_cons v sa_nil)) (t_tp rfl (ts_cons (t_nm hN) (ts_cons (t_nm hN) ts_nil)))
 (sb_one (ss_if (st_w (sw_or (st_not (st_truth (se_own (md := [false]) (ix := [0]) (ds := []) o_is_integer (.inl ⟨rfl, fun _ _ _ _ _ _ us ws h1 h2 => match us, ws, h1, h2 with | [_], [], _, _ => rfl⟩) hr gd (sa_cons v sa_nil)))) (sw_or1 (st_w (sw_and (st_cmp o_gt v se_int rfl) (sw_and1 (st_cmp o_le v (se_ix v (se_bin o_sub v se_int) (fun _ _ => rfl)) rfl)))))))
 (sb_one (ss_ret (se_tup (sa_cons v sa_nil))))
 sb_nil)))
 (sb_one (ss_ret (se_tup sa_nil)))))
theorem w_require_signal (cB : Free mg ["abs", "all", "bool", "enumerate", "int", "isinstance", "len", "list", "max", "min", "range", "repr", "str", "tuple"]) (cC : Co K mg) (cT : Tb K w mg)  (o_signal_fault : Own P w K mg base "signal_fault" s_signal_fault [] 2 ["value", "most"] 4 m_signal_fault) (D : Def K mg "require_signal" s_require_signal [.int 800]) : Own P w K mg base "require_signal" s_require_signal [.int 800] 3 ["signal", "most"] 3 m_require_signal := by
  refine own_of (N := ["signal", "most", "fault"]) D (by decide +kernel) rfl fun f cdv A outer z H hr gd => ?_
  have hN : (["signal", "most", "fault"] : List Str).Nodup := by decide +kernel
  have hu := hr.units
  have hu1 := units65 hr
  exact (sb_cons (ss_set hN rfl (by first | exact .inl rfl | exact .inr rfl) (se_own (md := [false, false]) (ix := [0, 1]) (ds := []) o_signal_fault (.inl ⟨rfl, fun _ _ _ _ _ _ us ws h1 h2 => match us, ws, h1, h2 with | [_, _], [], _, _ => rfl⟩) hr gd (sa_cons v (sa_cons v sa_nil))))
 (sb_one (ss_if (st_cmp (oP_ne hu) v (se_tup sa_nil) rfl)
 (sb_one ss_never)
 sb_nil)))
theorem w_require_at_least (cB : Free mg ["abs", "all", "bool", "enumerate", "int", "isinstance", "len", "list", "max", "min", "range", "repr", "str", "tuple"]) (cC : Co K mg) (cT : Tb K w mg)  (o_is_at_least : Own P w K mg base "is_at_least" s_is_at_least [] 2 ["value", "least"] 2 m_is_at_least) (D : Def K mg "require_at_least" s_require_at_least []) : Own P w K mg base "require_at_least" s_require_at_least [] 3 ["value", "least"] 2 m_require_at_least := by
  refine own_of (N := ["value", "least"]) D (by decide +kernel) rfl fun f cdv A outer z H hr gd => ?_
  have hN : (["value", "least"] : List Str).Nodup := by decide +kernel
  have hu := hr.units
  have hu1 := units65 hr
  exact (sb_one (ss_if (st_not (st_truth (se_own (md := [false, false]) (ix := [0, 1]) (ds := []) o_is_at_least (.inl ⟨rfl, fun _ _ _ _ _ _ us ws h1 h2 => match us, ws, h1, h2 with | [_, _], [], _, _ => rfl⟩) hr gd (sa_cons v (sa_cons v sa_nil)))))
 (sb_one ss_never)
 sb_nil))
theorem w_multiplied (cB : Free mg ["abs", "all", "bool", "enumerate", "int", "isinstance", "len", "list", "max", "min", "range", "repr", "str", "tuple"]) (cC : Co K mg) (cT : Tb K w mg)  (o_require_signal : Own P w K mg base "require_signal" s_require_signal [.int 800] 3 ["signal", "most"] 3 m_require_signal) (o_require_at_least : Own P w K mg base "require_at_least" s_require_at_least [] 3 ["value", "least"] 2 m_require_at_least) (D : Def K mg "multiplied" s_multiplied []) : Own P w K mg base "multiplied" s_multiplied [] 4 ["signal", "by"] 3 m_multiplied := by
  refine own_of (N := ["signal", "by", "tick"]) D (by decide +kernel) rfl fun f cdv A outer z H hr gd => ?_
  have hN : (["signal", "by", "tick"] : List Str).Nodup := by decide +kernel
  have hu := hr.units
  have hu1 := units65 hr
  exact (sb_cons (ss_expr (se_own (md := [false, false]) (ix := [0, 1]) (ds := [.int 800]) o_require_signal (.inr ⟨by simp, fun _ _ _ _ _ _ _ us ws its h1 h2 h3 => match us, ws, its, h1, h2, h3 with | [_], [], [_], _, _, _ => ⟨_, rfl, rfl⟩⟩) hr gd (sa_cons v sa_nil)))
 (sb_cons (ss_expr (se_own (md := [false, false]) (ix := [0, 1]) (ds := []) o_require_at_least (.inl ⟨rfl, fun _ _ _ _ _ _ us ws h1 h2 => match us, ws, h1, h2 with | [_, _], [], _, _ => rfl⟩) hr gd (sa_cons v (sa_cons se_int sa_nil))))
 (sb_one (ss_ret (se_comp rfl hN (si_seq v) (blkOk_by (N := ["signal", "by", "tick"]) (sc := defScope s_multiplied) (own := [("tick", 2)]) (by decide +kernel)) rfl (by decide) (fun _ _ _ _ _ => (t_nm hN)) (fun _ _ _ _ _ => sts_nil) (fun _ _ _ _ _ => (se_bin oP_mul v v)))))))
theorem w_law (cB : Free mg ["abs", "all", "bool", "enumerate", "int", "isinstance", "len", "list", "max", "min", "range", "repr", "str", "tuple"]) (cC : Co K mg) (cT : Tb K w mg)  (o__law_source : Own P w K mg base "_law_source" s__law_source [] 1 ["_law_script", "_law_at"] 4 m__law_source) (o__law_draw : Own P w K mg base "_law_draw" s__law_draw [] 1 ["_law_source_here", "_law_many"] 4 m__law_draw) (o__law_signal : Own P w K mg base "_law_signal" s__law_signal [] 2 ["_law_source_here", "_law_many"] 6 m__law_signal) (o_format_signal : Own P w K mg base "format_signal" s_format_signal [] 1 ["signal"] 2 m_format_signal) (o__law_signal_right : Own P w K mg base "_law_signal_right" s__law_signal_right [] 3 ["_law_wire"] 6 m__law_signal_right) (o_parse_sending : Own P w K mg base "parse_sending" s_parse_sending [] 4 ["shape", "length", "text"] 7 m_parse_sending) (o_format_sending : Own P w K mg base "format_sending" s_format_sending [] 1 ["sending"] 3 m_format_sending) (o__law_sending_right : Own P w K mg base "_law_sending_right" s__law_sending_right [] 5 ["_law_source_here", "_law_many"] 11 m__law_sending_right) (o__law_shapes_right : Own P w K mg base "_law_shapes_right" s__law_shapes_right [] 3 [] 6 m__law_shapes_right) (o_multiplied : Own P w K mg base "multiplied" s_multiplied [] 4 ["signal", "by"] 3 m_multiplied) {fa : Addr} {fd : FuncData} (D : FunD K "law" "law" (defArgs s_law) (defBody s_law) (defScope s_law) [] [] fa fd) : FnG P w K mg base 6 fa fd ["_law_script"] 7 m_law := by
  refine fnG_of (N := ["_law_script", "_law_at", "_law_source_here", "_law_wire", "_law_far", "_law_tick", "_law_great"]) D (C8.fnScope_by (by decide +kernel)) rfl fun cdv A outer z H hr gd => ?_
  have hN : (["_law_script", "_law_at", "_law_source_here", "_law_wire", "_law_far", "_law_tick", "_law_great"] : List Str).Nodup := by decide +kernel
  have hu := hr.units
  have hu1 := units65 hr
  exact (sb_cons (ss_for passN rfl (si_rng1 rfl (cB "range" (by decide)) (sa_cons (se_callB (c_max2 rfl) rfl (cB "max" (by decide)) (by decide +kernel) (sa_cons se_int (sa_cons (se_callB (c_min2 rfl) rfl (cB "min" (by decide)) (by decide +kernel) (sa_cons se_int (sa_cons (se_callB c_len rfl (cB "len" (by decide)) (by decide +kernel) (sa_cons v sa_nil)) sa_nil))) sa_nil))) sa_nil)) (t_nm hN)
 (sb_cons (ss_set hN rfl (by first | exact .inl rfl | exact .inr rfl) (se_own (md := [false, false]) (ix := [0, 1]) (ds := []) o__law_source (.inl ⟨rfl, fun _ _ _ _ _ _ us ws h1 h2 => match us, ws, h1, h2 with | [_, _], [], _, _ => rfl⟩) hr gd (sa_cons v (sa_cons v sa_nil))))
 (sb_cons (ss_set hN rfl (by first | exact .inl rfl | exact .inr rfl) (se_own (md := [true, false]) (ix := [0, 1]) (ds := []) o__law_signal (.inl ⟨rfl, fun _ _ _ _ _ _ us ws h1 h2 => match us, ws, h1, h2 with | [_, _], [], _, _ => rfl⟩) hr gd (sa_cons v (sa_cons (se_own (md := [true, false]) (ix := [0, 1]) (ds := []) o__law_draw (.inl ⟨rfl, fun _ _ _ _ _ _ us ws h1 h2 => match us, ws, h1, h2 with | [_, _], [], _, _ => rfl⟩) hr gd (sa_cons v (sa_cons se_int sa_nil))) sa_nil))))
 (sb_cons (ss_if (st_not (st_truth (se_own (md := [false]) (ix := [0]) (ds := []) o__law_signal_right (.inl ⟨rfl, fun _ _ _ _ _ _ us ws h1 h2 => match us, ws, h1, h2 with | [_], [], _, _ => rfl⟩) hr gd (sa_cons v sa_nil))))
 (sb_one (ss_ret se_bool))
 sb_nil)
 (sb_cons (ss_set hN rfl (by first | exact .inl rfl | exact .inr rfl) (se_methT PySem.F.slot_str_join rfl m_join se_str (sa_cons (se_comp rfl hN (si_seq v) (blkOk_by (N := ["_law_script", "_law_at", "_law_source_here", "_law_wire", "_law_far", "_law_tick", "_law_great"]) (sc := defScope s_law) (own := [("_law_tick", 5)]) (by decide +kernel)) rfl (by decide) (fun _ _ _ _ _ => (t_nm hN)) (fun _ _ _ _ _ => sts_nil) (fun _ _ _ _ _ => (se_callTy c_str rfl (cB "str" (by decide)) (by decide +kernel) (sa_cons (se_bin oP_mul v (se_bin o_pow se_int se_int)) sa_nil)))) sa_nil)))
 (sb_cons (ss_if (st_cmp (oP_ne hu) (se_own (md := [false]) (ix := [0]) (ds := []) o_format_signal (.inl ⟨rfl, fun _ _ _ _ _ _ us ws h1 h2 => match us, ws, h1, h2 with | [_], [], _, _ => rfl⟩) hr gd (sa_cons (se_own (md := [false, false]) (ix := [0, 1]) (ds := []) o_multiplied (.inl ⟨rfl, fun _ _ _ _ _ _ us ws h1 h2 => match us, ws, h1, h2 with | [_, _], [], _, _ => rfl⟩) hr gd (sa_cons v (sa_cons (se_bin o_pow se_int se_int) sa_nil))) sa_nil)) v rfl)
 (sb_one (ss_ret se_bool))
 sb_nil)
 (sb_one (ss_if (st_not (st_truth (se_own (md := [true, false]) (ix := [0, 1]) (ds := []) o__law_sending_right (.inl ⟨rfl, fun _ _ _ _ _ _ us ws h1 h2 => match us, ws, h1, h2 with | [_, _], [], _, _ => rfl⟩) hr gd (sa_cons v (sa_cons (se_own (md := [true, false]) (ix := [0, 1]) (ds := []) o__law_draw (.inl ⟨rfl, fun _ _ _ _ _ _ us ws h1 h2 => match us, ws, h1, h2 with | [_, _], [], _, _ => rfl⟩) hr gd (sa_cons v (sa_cons se_int sa_nil))) sa_nil)))))
 (sb_one (ss_ret se_bool))
 sb_nil))))))))
 (sb_cons (ss_set hN rfl (by first | exact .inl rfl | exact .inr rfl) (se_own (md := [false, false]) (ix := [0, 1]) (ds := []) o__law_source (.inl ⟨rfl, fun _ _ _ _ _ _ us ws h1 h2 => match us, ws, h1, h2 with | [_, _], [], _, _ => rfl⟩) hr gd (sa_cons v (sa_cons se_int sa_nil))))
 (sb_cons (ss_if (st_not (st_truth (se_own (md := [false]) (ix := [0]) (ds := []) o__law_signal_right (.inl ⟨rfl, fun _ _ _ _ _ _ us ws h1 h2 => match us, ws, h1, h2 with | [_], [], _, _ => rfl⟩) hr gd (sa_cons (se_own (md := [true, false]) (ix := [0, 1]) (ds := []) o__law_signal (.inl ⟨rfl, fun _ _ _ _ _ _ us ws h1 h2 => match us, ws, h1, h2 with | [_, _], [], _, _ => rfl⟩) hr gd (sa_cons v (sa_cons (se_bin oP_add se_int (se_own (md := [true, false]) (ix := [0, 1]) (ds := []) o__law_draw (.inl ⟨rfl, fun _ _ _ _ _ _ us ws h1 h2 => match us, ws, h1, h2 with | [_, _], [], _, _ => rfl⟩) hr gd (sa_cons v (sa_cons se_int sa_nil)))) sa_nil))) sa_nil))))
 (sb_one (ss_ret se_bool))
 sb_nil)
 (sb_cons (ss_if (st_not (st_truth (se_own (md := [true, false]) (ix := [0, 1]) (ds := []) o__law_sending_right (.inl ⟨rfl, fun _ _ _ _ _ _ us ws h1 h2 => match us, ws, h1, h2 with | [_, _], [], _, _ => rfl⟩) hr gd (sa_cons v (sa_cons (se_bin oP_add se_int (se_own (md := [true, false]) (ix := [0, 1]) (ds := []) o__law_draw (.inl ⟨rfl, fun _ _ _ _ _ _ us ws h1 h2 => match us, ws, h1, h2 with | [_, _], [], _, _ => rfl⟩) hr gd (sa_cons v (sa_cons se_int sa_nil)))) sa_nil)))))
 (sb_one (ss_ret se_bool))
 sb_nil)
 (sb_cons (ss_set hN rfl (by first | exact .inl rfl | exact .inr rfl) (se_lst (sa_cons (se_bin o_sub se_int (se_bin o_pow se_int se_int)) (sa_cons (se_neg se_int) (sa_cons se_int (sa_cons (se_bin o_sub (se_bin o_pow se_int se_int) se_int) sa_nil))))))
 (sb_cons (ss_if (st_w (sw_or (st_not (st_truth (se_own (md := [false]) (ix := [0]) (ds := []) o__law_signal_right (.inl ⟨rfl, fun _ _ _ _ _ _ us ws h1 h2 => match us, ws, h1, h2 with | [_], [], _, _ => rfl⟩) hr gd (sa_cons v sa_nil)))) (sw_or1 (st_not (st_truth (se_own (md := [false]) (ix := [0]) (ds := []) o__law_signal_right (.inl ⟨rfl, fun _ _ _ _ _ _ us ws h1 h2 => match us, ws, h1, h2 with | [_], [], _, _ => rfl⟩) hr gd (sa_cons (se_lst sa_nil) sa_nil)))))))
 (sb_one (ss_ret se_bool))
 sb_nil)
 (sb_one (ss_ret (se_and (se_cmp (oP_eq hu) (se_own (md := [false]) (ix := [0]) (ds := []) o_format_sending (.inl ⟨rfl, fun _ _ _ _ _ _ us ws h1 h2 => match us, ws, h1, h2 with | [_], [], _, _ => rfl⟩) hr gd (sa_cons (se_lst sa_nil) sa_nil)) se_str rfl) (se_and (se_cmp (oP_eq hu) (se_own (md := [false, false, false]) (ix := [0, 1, 2]) (ds := []) o_parse_sending (.inl ⟨rfl, fun _ _ _ _ _ _ us ws h1 h2 => match us, ws, h1, h2 with | [_, _, _], [], _, _ => rfl⟩) hr gd (sa_cons (se_tup (sa_cons se_int (sa_cons se_str (sa_cons se_int sa_nil)))) (sa_cons se_int (sa_cons se_str sa_nil)))) (se_lst sa_nil) rfl) (se_one (se_own0 (md := []) (ix := []) (ds := []) o__law_shapes_right (.inl ⟨rfl, fun _ _ _ _ _ _ us ws h1 h2 => match us, ws, h1, h2 with | [], [], _, _ => rfl⟩) hr gd))))))))))))
end
theorem all_mk {l : PySem.W.OpenLaw} {w : World} {K : PySem.W.Frag} {h : Heap} {mg : Str → Option Value} {fa : Addr} (X : K.In h) (G : h.Ns mainGlobals mg) (hfa : mg "law" = some (.ref fa))
    {t0 : Tok}
    {t1 : Tok}
    {t2 : Tok}
    {t3 : Tok}
    {t4_1 : Tok}
    {t4_2 : Tok}
    {t4_3 : Tok}
    {a4_0 : Addr} {n4_0 : Nat}
    {td0 : Addr} {tn0 : Nat}
    {tk0_0 tv0_0 : Tok}
    {tk0_1 tv0_1 : Tok}
    {tk0_2 tv0_2 : Tok}
    {f0 : Addr} {od0 an0 : Option Addr} {sl0 : Array (Option Value)} {oc0 kV0 dc0 pm0 cd0 ct0 : Value}
    {f1 : Addr} {od1 an1 : Option Addr} {sl1 : Array (Option Value)} {oc1 kV1 dc1 pm1 cd1 ct1 : Value}
    {f2 : Addr} {od2 an2 : Option Addr} {sl2 : Array (Option Value)} {oc2 kV2 dc2 pm2 cd2 ct2 : Value}
    {f3 : Addr} {od3 an3 : Option Addr} {sl3 : Array (Option Value)} {oc3 kV3 dc3 pm3 cd3 ct3 : Value}
    {f4 : Addr} {od4 an4 : Option Addr} {sl4 : Array (Option Value)} {oc4 kV4 dc4 pm4 cd4 ct4 : Value}
    {f5 : Addr} {od5 an5 : Option Addr} {sl5 : Array (Option Value)} {oc5 kV5 dc5 pm5 cd5 ct5 : Value}
    {f6 : Addr} {od6 an6 : Option Addr} {sl6 : Array (Option Value)} {oc6 kV6 dc6 pm6 cd6 ct6 : Value}
    {f7 : Addr} {od7 an7 : Option Addr} {sl7 : Array (Option Value)} {oc7 kV7 dc7 pm7 cd7 ct7 : Value}
    {f8 : Addr} {od8 an8 : Option Addr} {sl8 : Array (Option Value)} {oc8 kV8 dc8 pm8 cd8 ct8 : Value}
    {f9 : Addr} {od9 an9 : Option Addr} {sl9 : Array (Option Value)} {oc9 kV9 dc9 pm9 cd9 ct9 : Value}
    {f10 : Addr} {od10 an10 : Option Addr} {sl10 : Array (Option Value)} {oc10 kV10 dc10 pm10 cd10 ct10 : Value}
    {f11 : Addr} {od11 an11 : Option Addr} {sl11 : Array (Option Value)} {oc11 kV11 dc11 pm11 cd11 ct11 : Value}
    {f12 : Addr} {od12 an12 : Option Addr} {sl12 : Array (Option Value)} {oc12 kV12 dc12 pm12 cd12 ct12 : Value}
    {f13 : Addr} {od13 an13 : Option Addr} {sl13 : Array (Option Value)} {oc13 kV13 dc13 pm13 cd13 ct13 : Value}
    {f14 : Addr} {od14 an14 : Option Addr} {sl14 : Array (Option Value)} {oc14 kV14 dc14 pm14 cd14 ct14 : Value}
    {f15 : Addr} {od15 an15 : Option Addr} {sl15 : Array (Option Value)} {oc15 kV15 dc15 pm15 cd15 ct15 : Value}
    {f16 : Addr} {od16 an16 : Option Addr} {sl16 : Array (Option Value)} {oc16 kV16 dc16 pm16 cd16 ct16 : Value}
    {f17 : Addr} {od17 an17 : Option Addr} {sl17 : Array (Option Value)} {oc17 kV17 dc17 pm17 cd17 ct17 : Value}
    {f18 : Addr} {od18 an18 : Option Addr} {sl18 : Array (Option Value)} {oc18 kV18 dc18 pm18 cd18 ct18 : Value}
    {f19 : Addr} {od19 an19 : Option Addr} {sl19 : Array (Option Value)} {oc19 kV19 dc19 pm19 cd19 ct19 : Value}
    {f20 : Addr} {od20 an20 : Option Addr} {sl20 : Array (Option Value)} {oc20 kV20 dc20 pm20 cd20 ct20 : Value}
    {f21 : Addr} {od21 an21 : Option Addr} {sl21 : Array (Option Value)} {oc21 kV21 dc21 pm21 cd21 ct21 : Value}
    {f22 : Addr} {od22 an22 : Option Addr} {sl22 : Array (Option Value)} {oc22 kV22 dc22 pm22 cd22 ct22 : Value}
    {f23 : Addr} {od23 an23 : Option Addr} {sl23 : Array (Option Value)} {oc23 kV23 dc23 pm23 cd23 ct23 : Value}
    {f24 : Addr} {od24 an24 : Option Addr} {sl24 : Array (Option Value)} {oc24 kV24 dc24 pm24 cd24 ct24 : Value}
    {f25 : Addr} {od25 an25 : Option Addr} {sl25 : Array (Option Value)} {oc25 kV25 dc25 pm25 cd25 ct25 : Value}
    {f26 : Addr} {od26 an26 : Option Addr} {sl26 : Array (Option Value)} {oc26 kV26 dc26 pm26 cd26 ct26 : Value}
    {f27 : Addr} {od27 an27 : Option Addr} {sl27 : Array (Option Value)} {oc27 kV27 dc27 pm27 cd27 ct27 : Value}
    {f28 : Addr} {od28 an28 : Option Addr} {sl28 : Array (Option Value)} {oc28 kV28 dc28 pm28 cd28 ct28 : Value}
    {f29 : Addr} {od29 an29 : Option Addr} {sl29 : Array (Option Value)} {oc29 kV29 dc29 pm29 cd29 ct29 : Value}
    {T29 : Addr} {nT29 : Nat}
    {tk29_0 : Tok}
    {f30 : Addr} {od30 an30 : Option Addr} {sl30 : Array (Option Value)} {oc30 kV30 dc30 pm30 cd30 ct30 : Value}
    {f31 : Addr} {od31 an31 : Option Addr} {sl31 : Array (Option Value)} {oc31 kV31 dc31 pm31 cd31 ct31 : Value}
    {f32 : Addr} {od32 an32 : Option Addr} {sl32 : Array (Option Value)} {oc32 kV32 dc32 pm32 cd32 ct32 : Value}
    (z0 : PySem.W.nsIn K mainGlobals "abs" = some none)
    (z1 : PySem.W.nsIn K mainGlobals "all" = some none)
    (z2 : PySem.W.nsIn K mainGlobals "bool" = some none)
    (z3 : PySem.W.nsIn K mainGlobals "enumerate" = some none)
    (z4 : PySem.W.nsIn K mainGlobals "int" = some none)
    (z5 : PySem.W.nsIn K mainGlobals "isinstance" = some none)
    (z6 : PySem.W.nsIn K mainGlobals "len" = some none)
    (z7 : PySem.W.nsIn K mainGlobals "list" = some none)
    (z8 : PySem.W.nsIn K mainGlobals "max" = some none)
    (z9 : PySem.W.nsIn K mainGlobals "min" = some none)
    (z10 : PySem.W.nsIn K mainGlobals "range" = some none)
    (z11 : PySem.W.nsIn K mainGlobals "repr" = some none)
    (z12 : PySem.W.nsIn K mainGlobals "str" = some none)
    (z13 : PySem.W.nsIn K mainGlobals "tuple" = some none)
    (g0 : PySem.W.nsIn K mainGlobals "DIGITS" = some (some (.str "0123456789" t0)))
    (g1 : PySem.W.nsIn K mainGlobals "MOST_DIGITS" = some (some (.int 30 t1)))
    (g2 : PySem.W.nsIn K mainGlobals "MOST_LEVELS" = some (some (.int 800 t2)))
    (g3 : PySem.W.nsIn K mainGlobals "MOST_NUMBERS" = some (some (.int 60 t3)))
    (g4 : PySem.W.nsIn K mainGlobals "PARITIES" = some (some (.ref a4_0)))
    (la4_0 : K.lookup a4_0 = some { cls := .type "tuple", data := .seq ([.str "none" t4_1, .str "even" t4_2, .str "odd" t4_3] : List Value).toArray n4_0 })
    (tg0 : PySem.W.nsIn K mainGlobals "PARITY_OF_LETTER" = some (some (.ref td0)))
    (tl0 : K.lookup td0 = some ⟨.type "dict", none, .dict #[⟨PyData.keyHash w.params "n", .str "n" tk0_0, .str "none" tv0_0⟩, ⟨PyData.keyHash w.params "e", .str "e" tk0_1, .str "even" tv0_1⟩, ⟨PyData.keyHash w.params "o", .str "o" tk0_2, .str "odd" tv0_2⟩] tn0, #[]⟩)
    (ts0 : (td0 == sysModules) = false)
    (a0 : PySem.W.nsIn K mainGlobals "_law_source" = some (some (.ref f0)))
    (l0 : K.lookup f0 = some ⟨oc0, od0, .func (PySem.W.fnOf "_law_source" "_law_source" (defArgs s__law_source) (defBody s__law_source) (defScope s__law_source) .none kV0 dc0 pm0 an0 cd0 ct0), sl0⟩)
    (c0 : PySem.W.codeIn K cd0 "_law_source" = true)
    (k0 : PySem.W.keepIn K (.ref f0) = true)
    (a1 : PySem.W.nsIn K mainGlobals "_law_draw" = some (some (.ref f1)))
    (l1 : K.lookup f1 = some ⟨oc1, od1, .func (PySem.W.fnOf "_law_draw" "_law_draw" (defArgs s__law_draw) (defBody s__law_draw) (defScope s__law_draw) .none kV1 dc1 pm1 an1 cd1 ct1), sl1⟩)
    (c1 : PySem.W.codeIn K cd1 "_law_draw" = true)
    (k1 : PySem.W.keepIn K (.ref f1) = true)
    (a2 : PySem.W.nsIn K mainGlobals "_law_signal" = some (some (.ref f2)))
    (l2 : K.lookup f2 = some ⟨oc2, od2, .func (PySem.W.fnOf "_law_signal" "_law_signal" (defArgs s__law_signal) (defBody s__law_signal) (defScope s__law_signal) .none kV2 dc2 pm2 an2 cd2 ct2), sl2⟩)
    (c2 : PySem.W.codeIn K cd2 "_law_signal" = true)
    (k2 : PySem.W.keepIn K (.ref f2) = true)
    (a3 : PySem.W.nsIn K mainGlobals "require_string" = some (some (.ref f3)))
    (l3 : K.lookup f3 = some ⟨oc3, od3, .func (PySem.W.fnOf "require_string" "require_string" (defArgs s_require_string) (defBody s_require_string) (defScope s_require_string) .none kV3 dc3 pm3 an3 cd3 ct3), sl3⟩)
    (c3 : PySem.W.codeIn K cd3 "require_string" = true)
    (k3 : PySem.W.keepIn K (.ref f3) = true)
    (a4 : PySem.W.nsIn K mainGlobals "words_of" = some (some (.ref f4)))
    (l4 : K.lookup f4 = some ⟨oc4, od4, .func (PySem.W.fnOf "words_of" "words_of" (defArgs s_words_of) (defBody s_words_of) (defScope s_words_of) .none kV4 dc4 pm4 an4 cd4 ct4), sl4⟩)
    (c4 : PySem.W.codeIn K cd4 "words_of" = true)
    (k4 : PySem.W.keepIn K (.ref f4) = true)
    (a5 : PySem.W.nsIn K mainGlobals "integer_of" = some (some (.ref f5)))
    (l5 : K.lookup f5 = some ⟨oc5, od5, .func (PySem.W.fnOf "integer_of" "integer_of" (defArgs s_integer_of) (defBody s_integer_of) (defScope s_integer_of) .none kV5 dc5 pm5 an5 cd5 ct5), sl5⟩)
    (c5 : PySem.W.codeIn K cd5 "integer_of" = true)
    (k5 : PySem.W.keepIn K (.ref f5) = true)
    (a6 : PySem.W.nsIn K mainGlobals "parse_signal" = some (some (.ref f6)))
    (l6 : K.lookup f6 = some ⟨oc6, od6, .func (PySem.W.fnOf "parse_signal" "parse_signal" (defArgs s_parse_signal) (defBody s_parse_signal) (defScope s_parse_signal) .none kV6 dc6 pm6 an6 cd6 ct6), sl6⟩)
    (c6 : PySem.W.codeIn K cd6 "parse_signal" = true)
    (k6 : PySem.W.keepIn K (.ref f6) = true)
    (a7 : PySem.W.nsIn K mainGlobals "format_signal" = some (some (.ref f7)))
    (l7 : K.lookup f7 = some ⟨oc7, od7, .func (PySem.W.fnOf "format_signal" "format_signal" (defArgs s_format_signal) (defBody s_format_signal) (defScope s_format_signal) .none kV7 dc7 pm7 an7 cd7 ct7), sl7⟩)
    (c7 : PySem.W.codeIn K cd7 "format_signal" = true)
    (k7 : PySem.W.keepIn K (.ref f7) = true)
    (a8 : PySem.W.nsIn K mainGlobals "_law_signal_right" = some (some (.ref f8)))
    (l8 : K.lookup f8 = some ⟨oc8, od8, .func (PySem.W.fnOf "_law_signal_right" "_law_signal_right" (defArgs s__law_signal_right) (defBody s__law_signal_right) (defScope s__law_signal_right) .none kV8 dc8 pm8 an8 cd8 ct8), sl8⟩)
    (c8 : PySem.W.codeIn K cd8 "_law_signal_right" = true)
    (k8 : PySem.W.keepIn K (.ref f8) = true)
    (a9 : PySem.W.nsIn K mainGlobals "is_integer" = some (some (.ref f9)))
    (l9 : K.lookup f9 = some ⟨oc9, od9, .func (PySem.W.fnOf "is_integer" "is_integer" (defArgs s_is_integer) (defBody s_is_integer) (defScope s_is_integer) .none kV9 dc9 pm9 an9 cd9 ct9), sl9⟩)
    (c9 : PySem.W.codeIn K cd9 "is_integer" = true)
    (k9 : PySem.W.keepIn K (.ref f9) = true)
    (a10 : PySem.W.nsIn K mainGlobals "shape_fault" = some (some (.ref f10)))
    (l10 : K.lookup f10 = some ⟨oc10, od10, .func (PySem.W.fnOf "shape_fault" "shape_fault" (defArgs s_shape_fault) (defBody s_shape_fault) (defScope s_shape_fault) .none kV10 dc10 pm10 an10 cd10 ct10), sl10⟩)
    (c10 : PySem.W.codeIn K cd10 "shape_fault" = true)
    (k10 : PySem.W.keepIn K (.ref f10) = true)
    (a11 : PySem.W.nsIn K mainGlobals "require_shape" = some (some (.ref f11)))
    (l11 : K.lookup f11 = some ⟨oc11, od11, .func (PySem.W.fnOf "require_shape" "require_shape" (defArgs s_require_shape) (defBody s_require_shape) (defScope s_require_shape) .none kV11 dc11 pm11 an11 cd11 ct11), sl11⟩)
    (c11 : PySem.W.codeIn K cd11 "require_shape" = true)
    (k11 : PySem.W.keepIn K (.ref f11) = true)
    (a12 : PySem.W.nsIn K mainGlobals "is_at_least" = some (some (.ref f12)))
    (l12 : K.lookup f12 = some ⟨oc12, od12, .func (PySem.W.fnOf "is_at_least" "is_at_least" (defArgs s_is_at_least) (defBody s_is_at_least) (defScope s_is_at_least) .none kV12 dc12 pm12 an12 cd12 ct12), sl12⟩)
    (c12 : PySem.W.codeIn K cd12 "is_at_least" = true)
    (k12 : PySem.W.keepIn K (.ref f12) = true)
    (a13 : PySem.W.nsIn K mainGlobals "require_length" = some (some (.ref f13)))
    (l13 : K.lookup f13 = some ⟨oc13, od13, .func (PySem.W.fnOf "require_length" "require_length" (defArgs s_require_length) (defBody s_require_length) (defScope s_require_length) .none kV13 dc13 pm13 an13 cd13 ct13), sl13⟩)
    (c13 : PySem.W.codeIn K cd13 "require_length" = true)
    (k13 : PySem.W.keepIn K (.ref f13) = true)
    (a14 : PySem.W.nsIn K mainGlobals "fits_shape" = some (some (.ref f14)))
    (l14 : K.lookup f14 = some ⟨oc14, od14, .func (PySem.W.fnOf "fits_shape" "fits_shape" (defArgs s_fits_shape) (defBody s_fits_shape) (defScope s_fits_shape) .none kV14 dc14 pm14 an14 cd14 ct14), sl14⟩)
    (c14 : PySem.W.codeIn K cd14 "fits_shape" = true)
    (k14 : PySem.W.keepIn K (.ref f14) = true)
    (a15 : PySem.W.nsIn K mainGlobals "sending_item" = some (some (.ref f15)))
    (l15 : K.lookup f15 = some ⟨oc15, od15, .func (PySem.W.fnOf "sending_item" "sending_item" (defArgs s_sending_item) (defBody s_sending_item) (defScope s_sending_item) .none kV15 dc15 pm15 an15 cd15 ct15), sl15⟩)
    (c15 : PySem.W.codeIn K cd15 "sending_item" = true)
    (k15 : PySem.W.keepIn K (.ref f15) = true)
    (a16 : PySem.W.nsIn K mainGlobals "frame_size" = some (some (.ref f16)))
    (l16 : K.lookup f16 = some ⟨oc16, od16, .func (PySem.W.fnOf "frame_size" "frame_size" (defArgs s_frame_size) (defBody s_frame_size) (defScope s_frame_size) .none kV16 dc16 pm16 an16 cd16 ct16), sl16⟩)
    (c16 : PySem.W.codeIn K cd16 "frame_size" = true)
    (k16 : PySem.W.keepIn K (.ref f16) = true)
    (a17 : PySem.W.nsIn K mainGlobals "parse_sending" = some (some (.ref f17)))
    (l17 : K.lookup f17 = some ⟨oc17, od17, .func (PySem.W.fnOf "parse_sending" "parse_sending" (defArgs s_parse_sending) (defBody s_parse_sending) (defScope s_parse_sending) .none kV17 dc17 pm17 an17 cd17 ct17), sl17⟩)
    (c17 : PySem.W.codeIn K cd17 "parse_sending" = true)
    (k17 : PySem.W.keepIn K (.ref f17) = true)
    (a18 : PySem.W.nsIn K mainGlobals "_law_shape" = some (some (.ref f18)))
    (l18 : K.lookup f18 = some ⟨oc18, od18, .func (PySem.W.fnOf "_law_shape" "_law_shape" (defArgs s__law_shape) (defBody s__law_shape) (defScope s__law_shape) .none kV18 dc18 pm18 an18 cd18 ct18), sl18⟩)
    (c18 : PySem.W.codeIn K cd18 "_law_shape" = true)
    (k18 : PySem.W.keepIn K (.ref f18) = true)
    (a19 : PySem.W.nsIn K mainGlobals "_law_text" = some (some (.ref f19)))
    (l19 : K.lookup f19 = some ⟨oc19, od19, .func (PySem.W.fnOf "_law_text" "_law_text" (defArgs s__law_text) (defBody s__law_text) (defScope s__law_text) .none kV19 dc19 pm19 an19 cd19 ct19), sl19⟩)
    (c19 : PySem.W.codeIn K cd19 "_law_text" = true)
    (k19 : PySem.W.keepIn K (.ref f19) = true)
    (a20 : PySem.W.nsIn K mainGlobals "_law_size" = some (some (.ref f20)))
    (l20 : K.lookup f20 = some ⟨oc20, od20, .func (PySem.W.fnOf "_law_size" "_law_size" (defArgs s__law_size) (defBody s__law_size) (defScope s__law_size) .none kV20 dc20 pm20 an20 cd20 ct20), sl20⟩)
    (c20 : PySem.W.codeIn K cd20 "_law_size" = true)
    (k20 : PySem.W.keepIn K (.ref f20) = true)
    (a21 : PySem.W.nsIn K mainGlobals "_law_sending" = some (some (.ref f21)))
    (l21 : K.lookup f21 = some ⟨oc21, od21, .func (PySem.W.fnOf "_law_sending" "_law_sending" (defArgs s__law_sending) (defBody s__law_sending) (defScope s__law_sending) .none kV21 dc21 pm21 an21 cd21 ct21), sl21⟩)
    (c21 : PySem.W.codeIn K cd21 "_law_sending" = true)
    (k21 : PySem.W.keepIn K (.ref f21) = true)
    (a22 : PySem.W.nsIn K mainGlobals "format_sending" = some (some (.ref f22)))
    (l22 : K.lookup f22 = some ⟨oc22, od22, .func (PySem.W.fnOf "format_sending" "format_sending" (defArgs s_format_sending) (defBody s_format_sending) (defScope s_format_sending) .none kV22 dc22 pm22 an22 cd22 ct22), sl22⟩)
    (c22 : PySem.W.codeIn K cd22 "format_sending" = true)
    (k22 : PySem.W.keepIn K (.ref f22) = true)
    (a23 : PySem.W.nsIn K mainGlobals "_law_sending_right" = some (some (.ref f23)))
    (l23 : K.lookup f23 = some ⟨oc23, od23, .func (PySem.W.fnOf "_law_sending_right" "_law_sending_right" (defArgs s__law_sending_right) (defBody s__law_sending_right) (defScope s__law_sending_right) .none kV23 dc23 pm23 an23 cd23 ct23), sl23⟩)
    (c23 : PySem.W.codeIn K cd23 "_law_sending_right" = true)
    (k23 : PySem.W.keepIn K (.ref f23) = true)
    (a24 : PySem.W.nsIn K mainGlobals "format_shape" = some (some (.ref f24)))
    (l24 : K.lookup f24 = some ⟨oc24, od24, .func (PySem.W.fnOf "format_shape" "format_shape" (defArgs s_format_shape) (defBody s_format_shape) (defScope s_format_shape) .none kV24 dc24 pm24 an24 cd24 ct24), sl24⟩)
    (c24 : PySem.W.codeIn K cd24 "format_shape" = true)
    (k24 : PySem.W.keepIn K (.ref f24) = true)
    (a25 : PySem.W.nsIn K mainGlobals "shape_of" = some (some (.ref f25)))
    (l25 : K.lookup f25 = some ⟨oc25, od25, .func (PySem.W.fnOf "shape_of" "shape_of" (defArgs s_shape_of) (defBody s_shape_of) (defScope s_shape_of) .none kV25 dc25 pm25 an25 cd25 ct25), sl25⟩)
    (c25 : PySem.W.codeIn K cd25 "shape_of" = true)
    (k25 : PySem.W.keepIn K (.ref f25) = true)
    (a26 : PySem.W.nsIn K mainGlobals "parse_shape" = some (some (.ref f26)))
    (l26 : K.lookup f26 = some ⟨oc26, od26, .func (PySem.W.fnOf "parse_shape" "parse_shape" (defArgs s_parse_shape) (defBody s_parse_shape) (defScope s_parse_shape) .none kV26 dc26 pm26 an26 cd26 ct26), sl26⟩)
    (c26 : PySem.W.codeIn K cd26 "parse_shape" = true)
    (k26 : PySem.W.keepIn K (.ref f26) = true)
    (a27 : PySem.W.nsIn K mainGlobals "_law_shapes_right" = some (some (.ref f27)))
    (l27 : K.lookup f27 = some ⟨oc27, od27, .func (PySem.W.fnOf "_law_shapes_right" "_law_shapes_right" (defArgs s__law_shapes_right) (defBody s__law_shapes_right) (defScope s__law_shapes_right) .none kV27 dc27 pm27 an27 cd27 ct27), sl27⟩)
    (c27 : PySem.W.codeIn K cd27 "_law_shapes_right" = true)
    (k27 : PySem.W.keepIn K (.ref f27) = true)
    (a28 : PySem.W.nsIn K mainGlobals "signal_fault" = some (some (.ref f28)))
    (l28 : K.lookup f28 = some ⟨oc28, od28, .func (PySem.W.fnOf "signal_fault" "signal_fault" (defArgs s_signal_fault) (defBody s_signal_fault) (defScope s_signal_fault) .none kV28 dc28 pm28 an28 cd28 ct28), sl28⟩)
    (c28 : PySem.W.codeIn K cd28 "signal_fault" = true)
    (k28 : PySem.W.keepIn K (.ref f28) = true)
    (a29 : PySem.W.nsIn K mainGlobals "require_signal" = some (some (.ref f29)))
    (l29 : K.lookup f29 = some ⟨oc29, od29, .func (PySem.W.fnOf "require_signal" "require_signal" (defArgs s_require_signal) (defBody s_require_signal) (defScope s_require_signal) (.ref T29) kV29 dc29 pm29 an29 cd29 ct29), sl29⟩)
    (T29l : K.lookup T29 = some { cls := .type "tuple", data := .seq ([.int 800 tk29_0] : List Value).toArray nT29 })
    (c29 : PySem.W.codeIn K cd29 "require_signal" = true)
    (k29 : PySem.W.keepIn K (.ref f29) = true)
    (a30 : PySem.W.nsIn K mainGlobals "require_at_least" = some (some (.ref f30)))
    (l30 : K.lookup f30 = some ⟨oc30, od30, .func (PySem.W.fnOf "require_at_least" "require_at_least" (defArgs s_require_at_least) (defBody s_require_at_least) (defScope s_require_at_least) .none kV30 dc30 pm30 an30 cd30 ct30), sl30⟩)
    (c30 : PySem.W.codeIn K cd30 "require_at_least" = true)
    (k30 : PySem.W.keepIn K (.ref f30) = true)
    (a31 : PySem.W.nsIn K mainGlobals "multiplied" = some (some (.ref f31)))
    (l31 : K.lookup f31 = some ⟨oc31, od31, .func (PySem.W.fnOf "multiplied" "multiplied" (defArgs s_multiplied) (defBody s_multiplied) (defScope s_multiplied) .none kV31 dc31 pm31 an31 cd31 ct31), sl31⟩)
    (c31 : PySem.W.codeIn K cd31 "multiplied" = true)
    (k31 : PySem.W.keepIn K (.ref f31) = true)
    (a32 : PySem.W.nsIn K mainGlobals "law" = some (some (.ref f32)))
    (l32 : K.lookup f32 = some ⟨oc32, od32, .func (PySem.W.fnOf "law" "law" (defArgs s_law) (defBody s_law) (defScope s_law) .none kV32 dc32 pm32 an32 cd32 ct32), sl32⟩)
    (c32 : PySem.W.codeIn K cd32 "law" = true)
    (k32 : PySem.W.keepIn K (.ref f32) = true)
    : ∃ fd : FuncData, (∀ (y : Shared) (u : Value), BindsTo y fd ⟨[u], []⟩ [("_law_script", u)]) ∧ ∀ base : Heap, K.In base → base.Ns mainGlobals mg → FnG l.prog w K mg base 6 fa fd ["_law_script"] 7 m_law := by
  have e := hfa.symm.trans (PySem.W.mg_of X G a32)
  cases e
  have cB : Free mg ["abs", "all", "bool", "enumerate", "int", "isinstance", "len", "list", "max", "min", "range", "repr", "str", "tuple"] := by
    intro x hx
    simp only [List.mem_cons, List.not_mem_nil, or_false] at hx
    rcases hx with rfl | rfl | rfl | rfl | rfl | rfl | rfl | rfl | rfl | rfl | rfl | rfl | rfl | rfl
    · exact PySem.W.mg_none_of X G z0
    · exact PySem.W.mg_none_of X G z1
    · exact PySem.W.mg_none_of X G z2
    · exact PySem.W.mg_none_of X G z3
    · exact PySem.W.mg_none_of X G z4
    · exact PySem.W.mg_none_of X G z5
    · exact PySem.W.mg_none_of X G z6
    · exact PySem.W.mg_none_of X G z7
    · exact PySem.W.mg_none_of X G z8
    · exact PySem.W.mg_none_of X G z9
    · exact PySem.W.mg_none_of X G z10
    · exact PySem.W.mg_none_of X G z11
    · exact PySem.W.mg_none_of X G z12
    · exact PySem.W.mg_none_of X G z13
  have cC : Co K mg := ⟨con_str (PySem.W.mg_of X G g0), con_int (PySem.W.mg_of X G g1), con_int (PySem.W.mg_of X G g2), con_int (PySem.W.mg_of X G g3), ⟨.ref a4_0, _, PySem.W.mg_of X G g4, rfl, fun _ _ => (.tup (tup_k (xs := [.str "none", .str "even", .str "odd"]) la4_0 (show 3 ≤ sizeLine by decide) (.cons ⟨_, rfl⟩ (.cons ⟨_, rfl⟩ (.cons ⟨_, rfl⟩ .nil)))) (.cons (.str _) (.cons (.str _) (.cons (.str _) .nil))))⟩⟩
  have cT : Tb K w mg := ⟨tab_of (L := [(("n", "none"), tk0_0, tv0_0), (("e", "even"), tk0_1, tv0_1), (("o", "odd"), tk0_2, tv0_2)]) (PySem.W.mg_of X G tg0) tl0 ts0⟩
  have D : FunD K "law" "law" (defArgs s_law) (defBody s_law) (defScope s_law) [] [] fa _ := ⟨⟨_, _, _, _, _, _, _, _, _, _, rfl, l32, c32, (.inl ⟨rfl, rfl⟩), .inl rfl⟩, k32⟩
  refine ⟨_, fun y u => FunD.bindsA (ps := ["_law_script"]) D (fun _ _ _ _ _ _ us hl => match us, hl with | [_], _ => rfl) y [u] rfl, fun base _ _ => ?_⟩
  have o__law_source := w__law_source (P := l.prog) (w := w) (base := base) cB cC cT  ⟨_, _, PySem.W.mg_of X G a0, ⟨⟨_, _, _, _, _, _, _, _, _, _, rfl, l0, c0, (.inl ⟨rfl, rfl⟩), .inl rfl⟩, k0⟩⟩
  have o__law_draw := w__law_draw (P := l.prog) (w := w) (base := base) cB cC cT  ⟨_, _, PySem.W.mg_of X G a1, ⟨⟨_, _, _, _, _, _, _, _, _, _, rfl, l1, c1, (.inl ⟨rfl, rfl⟩), .inl rfl⟩, k1⟩⟩
  have o__law_signal := w__law_signal (P := l.prog) (w := w) (base := base) cB cC cT o__law_draw ⟨_, _, PySem.W.mg_of X G a2, ⟨⟨_, _, _, _, _, _, _, _, _, _, rfl, l2, c2, (.inl ⟨rfl, rfl⟩), .inl rfl⟩, k2⟩⟩
  have o_require_string := w_require_string (P := l.prog) (w := w) (base := base) cB cC cT  ⟨_, _, PySem.W.mg_of X G a3, ⟨⟨_, _, _, _, _, _, _, _, _, _, rfl, l3, c3, (.inl ⟨rfl, rfl⟩), .inl rfl⟩, k3⟩⟩
  have o_words_of := w_words_of (P := l.prog) (w := w) (base := base) cB cC cT  ⟨_, _, PySem.W.mg_of X G a4, ⟨⟨_, _, _, _, _, _, _, _, _, _, rfl, l4, c4, (.inl ⟨rfl, rfl⟩), .inl rfl⟩, k4⟩⟩
  have o_integer_of := w_integer_of (P := l.prog) (w := w) (base := base) cB cC cT  ⟨_, _, PySem.W.mg_of X G a5, ⟨⟨_, _, _, _, _, _, _, _, _, _, rfl, l5, c5, (.inl ⟨rfl, rfl⟩), .inl rfl⟩, k5⟩⟩
  have o_parse_signal := w_parse_signal (P := l.prog) (w := w) (base := base) cB cC cT o_require_string o_words_of o_integer_of ⟨_, _, PySem.W.mg_of X G a6, ⟨⟨_, _, _, _, _, _, _, _, _, _, rfl, l6, c6, (.inl ⟨rfl, rfl⟩), .inl rfl⟩, k6⟩⟩
  have o_format_signal := w_format_signal (P := l.prog) (w := w) (base := base) cB cC cT  ⟨_, _, PySem.W.mg_of X G a7, ⟨⟨_, _, _, _, _, _, _, _, _, _, rfl, l7, c7, (.inl ⟨rfl, rfl⟩), .inl rfl⟩, k7⟩⟩
  have o__law_signal_right := w__law_signal_right (P := l.prog) (w := w) (base := base) cB cC cT o_parse_signal o_format_signal ⟨_, _, PySem.W.mg_of X G a8, ⟨⟨_, _, _, _, _, _, _, _, _, _, rfl, l8, c8, (.inl ⟨rfl, rfl⟩), .inl rfl⟩, k8⟩⟩
  have o_is_integer := w_is_integer (P := l.prog) (w := w) (base := base) cB cC cT  ⟨_, _, PySem.W.mg_of X G a9, ⟨⟨_, _, _, _, _, _, _, _, _, _, rfl, l9, c9, (.inl ⟨rfl, rfl⟩), .inl rfl⟩, k9⟩⟩
  have o_shape_fault := w_shape_fault (P := l.prog) (w := w) (base := base) cB cC cT o_is_integer ⟨_, _, PySem.W.mg_of X G a10, ⟨⟨_, _, _, _, _, _, _, _, _, _, rfl, l10, c10, (.inl ⟨rfl, rfl⟩), .inl rfl⟩, k10⟩⟩
  have o_require_shape := w_require_shape (P := l.prog) (w := w) (base := base) cB cC cT o_shape_fault ⟨_, _, PySem.W.mg_of X G a11, ⟨⟨_, _, _, _, _, _, _, _, _, _, rfl, l11, c11, (.inl ⟨rfl, rfl⟩), .inl rfl⟩, k11⟩⟩
  have o_is_at_least := w_is_at_least (P := l.prog) (w := w) (base := base) cB cC cT o_is_integer ⟨_, _, PySem.W.mg_of X G a12, ⟨⟨_, _, _, _, _, _, _, _, _, _, rfl, l12, c12, (.inl ⟨rfl, rfl⟩), .inl rfl⟩, k12⟩⟩
  have o_require_length := w_require_length (P := l.prog) (w := w) (base := base) cB cC cT o_is_at_least ⟨_, _, PySem.W.mg_of X G a13, ⟨⟨_, _, _, _, _, _, _, _, _, _, rfl, l13, c13, (.inl ⟨rfl, rfl⟩), .inl rfl⟩, k13⟩⟩
  have o_fits_shape := w_fits_shape (P := l.prog) (w := w) (base := base) cB cC cT o_is_integer ⟨_, _, PySem.W.mg_of X G a14, ⟨⟨_, _, _, _, _, _, _, _, _, _, rfl, l14, c14, (.inl ⟨rfl, rfl⟩), .inl rfl⟩, k14⟩⟩
  have o_sending_item := w_sending_item (P := l.prog) (w := w) (base := base) cB cC cT o_integer_of o_fits_shape ⟨_, _, PySem.W.mg_of X G a15, ⟨⟨_, _, _, _, _, _, _, _, _, _, rfl, l15, c15, (.inl ⟨rfl, rfl⟩), .inl rfl⟩, k15⟩⟩
  have o_frame_size := w_frame_size (P := l.prog) (w := w) (base := base) cB cC cT  ⟨_, _, PySem.W.mg_of X G a16, ⟨⟨_, _, _, _, _, _, _, _, _, _, rfl, l16, c16, (.inl ⟨rfl, rfl⟩), .inl rfl⟩, k16⟩⟩
  have o_parse_sending := w_parse_sending (P := l.prog) (w := w) (base := base) cB cC cT o_require_string o_words_of o_require_shape o_require_length o_sending_item o_frame_size ⟨_, _, PySem.W.mg_of X G a17, ⟨⟨_, _, _, _, _, _, _, _, _, _, rfl, l17, c17, (.inl ⟨rfl, rfl⟩), .inl rfl⟩, k17⟩⟩
  have o__law_shape := w__law_shape (P := l.prog) (w := w) (base := base) cB cC cT o__law_draw ⟨_, _, PySem.W.mg_of X G a18, ⟨⟨_, _, _, _, _, _, _, _, _, _, rfl, l18, c18, (.inl ⟨rfl, rfl⟩), .inl rfl⟩, k18⟩⟩
  have o__law_text := w__law_text (P := l.prog) (w := w) (base := base) cB cC cT o__law_draw ⟨_, _, PySem.W.mg_of X G a19, ⟨⟨_, _, _, _, _, _, _, _, _, _, rfl, l19, c19, (.inl ⟨rfl, rfl⟩), .inl rfl⟩, k19⟩⟩
  have o__law_size := w__law_size (P := l.prog) (w := w) (base := base) cB cC cT  ⟨_, _, PySem.W.mg_of X G a20, ⟨⟨_, _, _, _, _, _, _, _, _, _, rfl, l20, c20, (.inl ⟨rfl, rfl⟩), .inl rfl⟩, k20⟩⟩
  have o__law_sending := w__law_sending (P := l.prog) (w := w) (base := base) cB cC cT o__law_draw o__law_text o__law_size ⟨_, _, PySem.W.mg_of X G a21, ⟨⟨_, _, _, _, _, _, _, _, _, _, rfl, l21, c21, (.inl ⟨rfl, rfl⟩), .inl rfl⟩, k21⟩⟩
  have o_format_sending := w_format_sending (P := l.prog) (w := w) (base := base) cB cC cT  ⟨_, _, PySem.W.mg_of X G a22, ⟨⟨_, _, _, _, _, _, _, _, _, _, rfl, l22, c22, (.inl ⟨rfl, rfl⟩), .inl rfl⟩, k22⟩⟩
  have o__law_sending_right := w__law_sending_right (P := l.prog) (w := w) (base := base) cB cC cT o__law_draw o_parse_sending o__law_shape o__law_sending o_format_sending ⟨_, _, PySem.W.mg_of X G a23, ⟨⟨_, _, _, _, _, _, _, _, _, _, rfl, l23, c23, (.inl ⟨rfl, rfl⟩), .inl rfl⟩, k23⟩⟩
  have o_format_shape := w_format_shape (P := l.prog) (w := w) (base := base) cB cC cT  ⟨_, _, PySem.W.mg_of X G a24, ⟨⟨_, _, _, _, _, _, _, _, _, _, rfl, l24, c24, (.inl ⟨rfl, rfl⟩), .inl rfl⟩, k24⟩⟩
  have o_shape_of := w_shape_of (P := l.prog) (w := w) (base := base) cB cC cT  ⟨_, _, PySem.W.mg_of X G a25, ⟨⟨_, _, _, _, _, _, _, _, _, _, rfl, l25, c25, (.inl ⟨rfl, rfl⟩), .inl rfl⟩, k25⟩⟩
  have o_parse_shape := w_parse_shape (P := l.prog) (w := w) (base := base) cB cC cT o_require_string o_shape_of ⟨_, _, PySem.W.mg_of X G a26, ⟨⟨_, _, _, _, _, _, _, _, _, _, rfl, l26, c26, (.inl ⟨rfl, rfl⟩), .inl rfl⟩, k26⟩⟩
  have o__law_shapes_right := w__law_shapes_right (P := l.prog) (w := w) (base := base) cB cC cT o_format_shape o_parse_shape ⟨_, _, PySem.W.mg_of X G a27, ⟨⟨_, _, _, _, _, _, _, _, _, _, rfl, l27, c27, (.inl ⟨rfl, rfl⟩), .inl rfl⟩, k27⟩⟩
  have o_signal_fault := w_signal_fault (P := l.prog) (w := w) (base := base) cB cC cT o_is_integer ⟨_, _, PySem.W.mg_of X G a28, ⟨⟨_, _, _, _, _, _, _, _, _, _, rfl, l28, c28, (.inl ⟨rfl, rfl⟩), .inl rfl⟩, k28⟩⟩
  have o_require_signal := w_require_signal (P := l.prog) (w := w) (base := base) cB cC cT o_signal_fault ⟨_, _, PySem.W.mg_of X G a29, ⟨⟨_, _, _, _, _, _, _, _, _, _, rfl, l29, c29, (.inr ⟨by simp, T29, _, _, _, rfl, T29l, rfl, (.cons ⟨_, rfl⟩ .nil)⟩), .inl rfl⟩, k29⟩⟩
  have o_require_at_least := w_require_at_least (P := l.prog) (w := w) (base := base) cB cC cT o_is_at_least ⟨_, _, PySem.W.mg_of X G a30, ⟨⟨_, _, _, _, _, _, _, _, _, _, rfl, l30, c30, (.inl ⟨rfl, rfl⟩), .inl rfl⟩, k30⟩⟩
  have o_multiplied := w_multiplied (P := l.prog) (w := w) (base := base) cB cC cT o_require_signal o_require_at_least ⟨_, _, PySem.W.mg_of X G a31, ⟨⟨_, _, _, _, _, _, _, _, _, _, rfl, l31, c31, (.inl ⟨rfl, rfl⟩), .inl rfl⟩, k31⟩⟩
  exact w_law cB cC cT o__law_source o__law_draw o__law_signal o_format_signal o__law_signal_right o_parse_sending o_format_sending o__law_sending_right o__law_shapes_right o_multiplied D
end P
namespace P
open PySem PySem.Spec PyProof.Rows L2 E
@[irreducible] noncomputable def p__law_source (a0 : (List Int)) (a1 : Int) : Option ((List Int)) :=
 (if (decide (a1 < (a0.length : Int))) = true then ((L2.atI a0 a1).bind fun x1 => (some x1)) else (some (0 : Int))).bind fun v2 =>
 letP ((if (decide ((1000000000000000000 : Int) ≤ (v2.natAbs : Int))) = true then ((v2.natAbs : Int) - (1000000000000000000 : Int)) else (0 : Int)) : Int) fun left5 =>
 if cMul (1000003 : Int) a1 then some ([left5, ((v2 % (2305843009213693951 : Int)) + ((1000003 : Int) * a1)), (0 : Int)] : (List Int)) else none
theorem x__law_source (a0 : (List Int)) (a1 : Int) {r : ((List Int))} (h : p__law_source a0 a1 = some r) : outF m__law_source [.sh (.list (a0.map enc)), .sh (.int a1)] [.dead, .dead] = some (.new (r.map enc), [.dead, .dead]) := by
  unfold m__law_source
  refine bj_fall (m := p__law_source a0 a1) (o := fun (r : ((List Int))) => .rt (.new (r.map enc)) ([.dead, .dead])) (a := ⟨[.da (.list (a0.map enc)), .da (.int a1), .un, .un], [.dead, .dead]⟩) ?_ rfl h rfl
  unfold p__law_source
  exact (
 bj_assoc (bj_bind fun v2 hv2 =>
 bj_d (a1 := ⟨[.da (.list (a0.map enc)), .da (.int a1), .da (.int v2), .un], [.dead, .dead]⟩) (dj_set (j_ite (v := .da (.int v2)) (a2 := ⟨[.da (.list (a0.map enc)), .da (.int a1), .un, .un], [.dead, .dead]⟩) (jt_bool (j_two (j_varD rfl) (j_g1 (j_varD rfl) rfl (o_lenM (e := PyData.int) (xs := a0))) rfl rfl rd_lt)) (fun b3 => (match bE (ifT b3 hv2) with | ⟨x1, hx1, e4⟩ => match sE e4 with | rfl => (j_ixL (e := PyData.int) (xs := a0) (j_varD rfl) (j_varD rfl) rfl rfl hx1))) (fun b3 => (match sE (ifF b3 hv2) with | rfl => j_lit))) rfl) (bj_assoc (bj_set (e := (if (decide ((1000000000000000000 : Int) ≤ (v2.natAbs : Int))) = true then ((v2.natAbs : Int) - (1000000000000000000 : Int)) else (0 : Int))) (A := fun (left5 : Int) => ⟨[.da (.list (a0.map enc)), .da (.int a1), .da (.int v2), .da (.int left5)], [.dead, .dead]⟩) (dj_set (j_iteD (e := PyData.int) (x := ((v2.natAbs : Int) - (1000000000000000000 : Int))) (y := (0 : Int)) (jt_bool (j_two (j_g1 (j_varD rfl) rfl o_abs) (da_eq (d := .int ((10 : Int) ^ ((18 : Int)).toNat)) (d1 := .int (1000000000000000000 : Int)) (j_two j_lit j_lit rfl rfl (rd_pow (show cPow (10 : Int) (18 : Int) by decide +kernel))) (congrArg PyData.int (show ((10 : Int) ^ ((18 : Int)).toNat) = (1000000000000000000 : Int) by decide +kernel))) rfl rfl rd_ge)) (fun _ => (j_two (j_g1 (j_varD rfl) rfl o_abs) (da_eq (d := .int ((10 : Int) ^ ((18 : Int)).toNat)) (d1 := .int (1000000000000000000 : Int)) (j_two j_lit j_lit rfl rfl (rd_pow (show cPow (10 : Int) (18 : Int) by decide +kernel))) (congrArg PyData.int (show ((10 : Int) ^ ((18 : Int)).toNat) = (1000000000000000000 : Int) by decide +kernel))) rfl rfl rd_sub)) (fun _ => j_lit)) rfl) (fun left5 =>
 bj_g fun hg6 => bj_retq (j_lst (ja_cons (j_varD rfl) (ja_cons (j_two (j_two (j_g1 (j_varD rfl) rfl o_intI) j_lit rfl rfl (rd_mod (show (0 : Int) < (2305843009213693951 : Int) by decide))) (j_two j_lit (j_varD rfl) rfl rfl (rd_mulI hg6)) rfl rfl rd_addI) (ja_cons j_lit ja_nil))) rfl) rfl rfl)))))

@[irreducible] noncomputable def p__law_draw (a0 : (List Int)) (a1 : Int) : Option (Int × (List Int)) :=
 (L2.atI a0 (0 : Int)).bind fun x1 =>
 if (decide ((0 : Int) < x1)) = true then (L2.atI a0 (0 : Int)).bind fun x2 =>
 if 0 < a1 then letP ((x2 % a1) : Int) fun drawn4 =>
 (L2.atI a0 (0 : Int)).bind fun x5 =>
 if cDiv x5 a1 then (ixN a0.length (0 : Int)).bind fun j7 =>
 letP ((a0.set j7 (x5 / a1)) : (List Int)) fun source_here8 =>
 some (drawn4, source_here8) else none else none
 else (L2.atI a0 (2 : Int)).bind fun x9 =>
 (ixN a0.length (2 : Int)).bind fun j10 =>
 letP ((a0.set j10 (x9 + (1 : Int))) : (List Int)) fun source_here11 =>
 (L2.atI source_here11 (1 : Int)).bind fun x12 =>
 (L2.atI source_here11 (2 : Int)).bind fun x13 =>
 if cMul (2750159 : Int) x13 then letP ((x12 + ((2750159 : Int) * x13)) : Int) fun mixed15 =>
 if cPow mixed15 (3 : Int) then (L2.atI source_here11 (2 : Int)).bind fun x17 =>
 if cMul (7368787 : Int) x17 then letP ((((mixed15 ^ ((3 : Int)).toNat) % (100000000000000000000000000000000000133 : Int)) + ((7368787 : Int) * x17)) : Int) fun mixed19 =>
 if cPow mixed19 (3 : Int) then letP (((mixed19 ^ ((3 : Int)).toNat) % (100000000000000000000000000000000000000217 : Int)) : Int) fun mixed21 =>
 if 0 < a1 then some (((mixed21 / (1000003 : Int)) % a1), source_here11) else none else none else none else none else none
theorem x__law_draw (a0 : (List Int)) (a1 : Int) {r : (Int × (List Int))} (h : p__law_draw a0 a1 = some r) : outF m__law_draw [.own 0, .sh (.int a1)] [.lv (a0.map enc), .dead] = some (.sh (.int r.1), [.lv (r.2.map enc), .dead]) := by
  unfold m__law_draw
  refine bj_fall (m := p__law_draw a0 a1) (o := fun (r : (Int × (List Int))) => .rt (.sh (.int r.1)) ([.lv (r.2.map enc), .dead])) (a := ⟨[.ar, .da (.int a1), .un, .un], [.lv (a0.map enc), .dead]⟩) ?_ rfl h rfl
  unfold p__law_draw
  exact (
 bj_assoc (bj_bind fun x1 hx1 =>
 bj_ifr (a1 := ⟨[.ar, .da (.int a1), .un, .un], [.lv (a0.map enc), .dead]⟩) (jt_bool (j_two (j_ixL (e := PyData.int) (xs := a0) (j_var rfl) j_lit rfl rfl hx1) j_lit rfl rfl rd_gt)) (fun _ => bj_assoc (bj_bind fun x2 hx2 =>
 bj_g fun hg3 => bj_set (e := (x2 % a1)) (A := fun (drawn4 : Int) => ⟨[.ar, .da (.int a1), .da (.int drawn4), .un], [.lv (a0.map enc), .dead]⟩) (dj_set (j_two (j_g1 (j_ixL (e := PyData.int) (xs := a0) (j_var rfl) j_lit rfl rfl hx2) rfl o_intI) (j_varD rfl) rfl rfl (rd_mod hg3)) rfl) (fun drawn4 =>
 bj_assoc (bj_bind fun x5 hx5 =>
 bj_g fun hg6 => bj_bind fun j7 hj7 =>
 bj_set (e := (a0.set j7 (x5 / a1))) (A := fun (source_here8 : (List Int)) => ⟨[.ar, .da (.int a1), .da (.int drawn4), .un], [.lv (source_here8.map enc), .dead]⟩) (dj_subL (e := PyData.int) (xs := a0) (x := (x5 / a1)) (j_two (j_ixL (e := PyData.int) (xs := a0) (j_var rfl) j_lit rfl rfl hx5) (j_varD rfl) rfl rfl (rd_fdiv hg6)) rfl j_lit rfl rfl hj7 rfl) (fun source_here8 =>
 bj_retq (j_varD rfl) rfl rfl)))))
 (fun _ => bj_skip (bj_assoc (bj_bind fun x9 hx9 =>
 bj_bind fun j10 hj10 =>
 bj_set (e := (a0.set j10 (x9 + (1 : Int)))) (A := fun (source_here11 : (List Int)) => ⟨[.ar, .da (.int a1), .un, .un], [.lv (source_here11.map enc), .dead]⟩) (dj_subL (e := PyData.int) (xs := a0) (x := (x9 + (1 : Int))) (j_two (j_ixL (e := PyData.int) (xs := a0) (j_var rfl) j_lit rfl rfl hx9) j_lit rfl rfl rd_addI) rfl j_lit rfl rfl hj10 rfl) (fun source_here11 =>
 bj_assoc (bj_bind fun x12 hx12 =>
 bj_bind fun x13 hx13 =>
 bj_g fun hg14 => bj_set (e := (x12 + ((2750159 : Int) * x13))) (A := fun (mixed15 : Int) => ⟨[.ar, .da (.int a1), .un, .da (.int mixed15)], [.lv (source_here11.map enc), .dead]⟩) (dj_set (j_two (j_ixL (e := PyData.int) (xs := source_here11) (j_var rfl) j_lit rfl rfl hx12) (j_two j_lit (j_ixL (e := PyData.int) (xs := source_here11) (j_var rfl) j_lit rfl rfl hx13) rfl rfl (rd_mulI hg14)) rfl rfl rd_addI) rfl) (fun mixed15 =>
 bj_assoc (bj_g fun hg16 => bj_bind fun x17 hx17 =>
 bj_g fun hg18 => bj_set (e := (((mixed15 ^ ((3 : Int)).toNat) % (100000000000000000000000000000000000133 : Int)) + ((7368787 : Int) * x17))) (A := fun (mixed19 : Int) => ⟨[.ar, .da (.int a1), .un, .da (.int mixed19)], [.lv (source_here11.map enc), .dead]⟩) (dj_set (j_two (j_two (j_g1 (j_two (j_varD rfl) j_lit rfl rfl (rd_pow hg16)) rfl o_intI) (da_eq (d := .int ((100000000000000000000000000000000000000 : Int) + (133 : Int))) (d1 := .int (100000000000000000000000000000000000133 : Int)) (j_two (da_eq (d := .int ((10 : Int) ^ ((38 : Int)).toNat)) (d1 := .int (100000000000000000000000000000000000000 : Int)) (j_two j_lit j_lit rfl rfl (rd_pow (show cPow (10 : Int) (38 : Int) by decide +kernel))) (congrArg PyData.int (show ((10 : Int) ^ ((38 : Int)).toNat) = (100000000000000000000000000000000000000 : Int) by decide +kernel))) j_lit rfl rfl rd_addI) (congrArg PyData.int (show ((100000000000000000000000000000000000000 : Int) + (133 : Int)) = (100000000000000000000000000000000000133 : Int) by decide +kernel))) rfl rfl (rd_mod (show (0 : Int) < (100000000000000000000000000000000000133 : Int) by decide))) (j_two j_lit (j_ixL (e := PyData.int) (xs := source_here11) (j_var rfl) j_lit rfl rfl hx17) rfl rfl (rd_mulI hg18)) rfl rfl rd_addI) rfl) (fun mixed19 =>
 bj_assoc (bj_g fun hg20 => bj_set (e := ((mixed19 ^ ((3 : Int)).toNat) % (100000000000000000000000000000000000000217 : Int))) (A := fun (mixed21 : Int) => ⟨[.ar, .da (.int a1), .un, .da (.int mixed21)], [.lv (source_here11.map enc), .dead]⟩) (dj_set (j_two (j_g1 (j_two (j_varD rfl) j_lit rfl rfl (rd_pow hg20)) rfl o_intI) (da_eq (d := .int ((100000000000000000000000000000000000000000 : Int) + (217 : Int))) (d1 := .int (100000000000000000000000000000000000000217 : Int)) (j_two (da_eq (d := .int ((10 : Int) ^ ((41 : Int)).toNat)) (d1 := .int (100000000000000000000000000000000000000000 : Int)) (j_two j_lit j_lit rfl rfl (rd_pow (show cPow (10 : Int) (41 : Int) by decide +kernel))) (congrArg PyData.int (show ((10 : Int) ^ ((41 : Int)).toNat) = (100000000000000000000000000000000000000000 : Int) by decide +kernel))) j_lit rfl rfl rd_addI) (congrArg PyData.int (show ((100000000000000000000000000000000000000000 : Int) + (217 : Int)) = (100000000000000000000000000000000000000217 : Int) by decide +kernel))) rfl rfl (rd_mod (show (0 : Int) < (100000000000000000000000000000000000000217 : Int) by decide))) rfl) (fun mixed21 =>
 bj_g fun hg22 => bj_retq (j_two (j_g1 (j_two (j_varD rfl) j_lit rfl rfl (rd_fdiv (show cDiv mixed21 (1000003 : Int) from ⟨by decide, by decide +kernel⟩))) rfl o_intI) (j_varD rfl) rfl rfl (rd_mod hg22)) rfl rfl))))))))))))

@[irreducible] noncomputable def p__law_signal (a0 : (List Int)) (a1 : Int) : Option ((List Int) × (List Int)) :=
 (p__law_draw a0 ((4 : Int))).bind fun r1 =>
 (L2.atI ([(1 : Int), (3 : Int), (12 : Int), (10000000000000000000000000 : Int)] : (List Int)) r1.1).bind fun x2 =>
 (p__law_draw r1.2 ((5 : Int))).bind fun r3 =>
 (L2.atI ([(0 : Int), (-(40 : Int)), (7 : Int), (-(100000000000000000000000000000 : Int)), (10000000000000000000000000000 : Int)] : (List Int)) r3.1).bind fun x4 =>
 (p__law_draw r3.2 ((50 : Int))).bind fun r5 =>
 letP ((x4 + r5.1) : Int) fun tick6 =>
 if small62 a1 then (loopM (fun (s17 : Int × (List Int) × (List Int)) (i18 : Int) =>
 if s17.2.1.length < sizeLine then letP ((s17.2.1 ++ [s17.1]) : (List Int)) fun w27 =>
 (p__law_draw s17.2.2 x2).bind fun r28 =>
 (p__law_draw r28.2 x2).bind fun r29 =>
 (p__law_draw r29.2 ((3 : Int))).bind fun r30 =>
 (L2.atI ([(0 : Int), r28.1, r29.1] : (List Int)) r30.1).bind fun x31 =>
 letP (((s17.1 + (1 : Int)) + x31) : Int) fun tick32 =>
 some (tick32, w27, r30.2) else none) (rngL 0 1 (a1).toNat) ((tick6, ([] : (List Int)), r5.2) : Int × (List Int) × (List Int))).bind fun s17 =>
 some (s17.2.1, s17.2.2) else none
theorem x__law_signal (a0 : (List Int)) (a1 : Int) {r : ((List Int) × (List Int))} (h : p__law_signal a0 a1 = some r) : outF m__law_signal [.own 0, .sh (.int a1)] [.lv (a0.map enc), .dead] = some (.new (r.1.map enc), [.lv (r.2.map enc), .dead]) := by
  unfold m__law_signal
  refine bj_fall (m := p__law_signal a0 a1) (o := fun (r : ((List Int) × (List Int))) => .rt (.new (r.1.map enc)) ([.lv (r.2.map enc), .dead])) (a := ⟨[.ar, .da (.int a1), .un, .un, .un, .un], [.lv (a0.map enc), .dead]⟩) ?_ rfl h rfl
  unfold p__law_signal
  exact (
 bj_assoc (bj_bind fun r1 hr1 =>
 bj_bind fun x2 hx2 =>
 bj_d (a1 := ⟨[.ar, .da (.int a1), .da (.int x2), .un, .un, .un], [.lv (r1.2.map enc), .dead]⟩) (dj_set (j_ixL (e := PyData.int) (xs := ([(1 : Int), (3 : Int), (12 : Int), (10000000000000000000000000 : Int)] : (List Int))) (j_lst (ja_cons j_lit (ja_cons j_lit (ja_cons j_lit (ja_cons (da_eq (d := .int ((10 : Int) ^ ((25 : Int)).toNat)) (d1 := .int (10000000000000000000000000 : Int)) (j_two j_lit j_lit rfl rfl (rd_pow (show cPow (10 : Int) (25 : Int) by decide +kernel))) (congrArg PyData.int (show ((10 : Int) ^ ((25 : Int)).toNat) = (10000000000000000000000000 : Int) by decide +kernel))) ja_nil)))) rfl) (j_callE (ja_cons (j_var rfl) (ja_cons j_lit ja_nil)) ja_nil ⟨rfl, rfl⟩ rfl rfl (x__law_draw a0 ((4 : Int)) hr1) rfl (ok_sh _ r1.1) rfl rfl) rfl rfl hx2) rfl) (bj_assoc (bj_bind fun r3 hr3 =>
 bj_bind fun x4 hx4 =>
 bj_bind fun r5 hr5 =>
 bj_set (e := (x4 + r5.1)) (A := fun (tick6 : Int) => ⟨[.ar, .da (.int a1), .da (.int x2), .da (.int tick6), .un, .un], [.lv (r5.2.map enc), .dead]⟩) (dj_set (j_two (j_ixL (e := PyData.int) (xs := ([(0 : Int), (-(40 : Int)), (7 : Int), (-(100000000000000000000000000000 : Int)), (10000000000000000000000000000 : Int)] : (List Int))) (j_lst (ja_cons j_lit (ja_cons (j_one j_lit rfl rd1_neg) (ja_cons j_lit (ja_cons (j_one (da_eq (d := .int ((10 : Int) ^ ((29 : Int)).toNat)) (d1 := .int (100000000000000000000000000000 : Int)) (j_two j_lit j_lit rfl rfl (rd_pow (show cPow (10 : Int) (29 : Int) by decide +kernel))) (congrArg PyData.int (show ((10 : Int) ^ ((29 : Int)).toNat) = (100000000000000000000000000000 : Int) by decide +kernel))) rfl rd1_neg) (ja_cons (da_eq (d := .int ((10 : Int) ^ ((28 : Int)).toNat)) (d1 := .int (10000000000000000000000000000 : Int)) (j_two j_lit j_lit rfl rfl (rd_pow (show cPow (10 : Int) (28 : Int) by decide +kernel))) (congrArg PyData.int (show ((10 : Int) ^ ((28 : Int)).toNat) = (10000000000000000000000000000 : Int) by decide +kernel))) ja_nil))))) rfl) (j_callE (ja_cons (j_var rfl) (ja_cons j_lit ja_nil)) ja_nil ⟨rfl, rfl⟩ rfl rfl (x__law_draw r1.2 ((5 : Int)) hr3) rfl (ok_sh _ r3.1) rfl rfl) rfl rfl hx4) (j_callE (ja_cons (j_var rfl) (ja_cons j_lit ja_nil)) ja_nil ⟨rfl, rfl⟩ rfl rfl (x__law_draw r3.2 ((50 : Int)) hr5) rfl (ok_sh _ r5.1) rfl rfl) rfl rfl rd_addI) rfl) (fun tick6 =>
 bj_assoc (bj_d (a1 := ⟨[.ar, .da (.int a1), .da (.int x2), .da (.int tick6), .ow (.lv (([] : (List Int)).map enc)), .un], [.lv (r5.2.map enc), .dead]⟩) (dj_set (j_lst ja_nil rfl) rfl) (bj_assoc (bj_g fun hg7 => bj_seqb (A := fun (s17 : Int × (List Int) × (List Int)) => ⟨[.ar, .un, .da (.int x2), .da (.int s17.1), .ow (.lv (s17.2.1.map enc)), .un], [.lv (s17.2.2.map enc), .dead]⟩) (bj_for (a1 := ⟨[.ar, .da (.int a1), .da (.int x2), .da (.int tick6), .ow (.lv (([] : (List Int)).map enc)), .un], [.lv (r5.2.map enc), .dead]⟩) (e := PyData.int) (E := fun (s17 : Int × (List Int) × (List Int)) => ⟨[.ar, .un, .da (.int x2), .da (.int s17.1), .ow (.lv (s17.2.1.map enc)), .un], [.lv (s17.2.2.map enc), .dead]⟩) (ls := []) (ys := (rngL 0 1 (a1).toNat)) (x0 := ((tick6, ([] : (List Int)), r5.2) : Int × (List Int) × (List Int))) (ji_rng1 (ja_cons (j_varD rfl) ja_nil) hg7) ⟨(.s (wk_da (.s (.s (.s (.s .nil)))))), rfl⟩ (fun _ => rfl) (fun _ => rfl) (fun _ => rfl) (fun s17 i18 => ⟨⟨[.ar, .un, .da (.int x2), .da (.int s17.1), .ow (.lv (s17.2.1.map enc)), .da (.int i18)], [.lv (s17.2.2.map enc), .dead]⟩, rfl, bj_sk (
 bj_assoc (bj_g fun hg26 => bj_set (e := ((s17.2.1 ++ [s17.1]) : (List Int))) (A := fun (w27 : (List Int)) => ⟨[.ar, .un, .da (.int x2), .da (.int s17.1), .ow (.lv (w27.map enc)), .da (.int i18)], [.lv (s17.2.2.map enc), .dead]⟩) (dj_expr (j_appL (e := PyData.int) (xs := s17.2.1) (x := s17.1) rfl (j_varD rfl) rfl rfl hg26 rfl)) (fun w27 =>
 bj_bind fun r28 hr28 =>
 bj_bind fun r29 hr29 =>
 bj_bind fun r30 hr30 =>
 bj_bind fun x31 hx31 =>
 bj_set (e := ((s17.1 + (1 : Int)) + x31)) (A := fun (tick32 : Int) => ⟨[.ar, .un, .da (.int x2), .da (.int tick32), .ow (.lv (w27.map enc)), .da (.int i18)], [.lv (r30.2.map enc), .dead]⟩) (dj_set (j_two (j_two (j_varD rfl) j_lit rfl rfl rd_addI) (j_ixL (e := PyData.int) (xs := ([(0 : Int), r28.1, r29.1] : (List Int))) (j_lst (ja_cons j_lit (ja_cons (j_callE (ja_cons (j_var rfl) (ja_cons (j_varD rfl) ja_nil)) ja_nil ⟨rfl, rfl⟩ rfl rfl (x__law_draw s17.2.2 x2 hr28) rfl (ok_sh _ r28.1) rfl rfl) (ja_cons (j_callE (ja_cons (j_var rfl) (ja_cons (j_varD rfl) ja_nil)) ja_nil ⟨rfl, rfl⟩ rfl rfl (x__law_draw r28.2 x2 hr29) rfl (ok_sh _ r29.1) rfl rfl) ja_nil))) rfl) (j_callE (ja_cons (j_var rfl) (ja_cons j_lit ja_nil)) ja_nil ⟨rfl, rfl⟩ rfl rfl (x__law_draw r29.2 ((3 : Int)) hr30) rfl (ok_sh _ r30.1) rfl rfl) rfl rfl hx31) rfl rfl rd_addI) rfl) (fun tick32 =>
 bj_endgo rfl ⟨(.s (.s (.s (.s (.s (wk_da .nil)))))), rfl⟩))))⟩))
 (fun s17 => bj_retq (j_var rfl) rfl rfl)))))))))

@[irreducible] noncomputable def p_format_signal (a0 : (List Int)) : Option (Str) :=
 (compB (fun (y1 : Int) => (if (y1).natAbs.log2 < 1920 then (some [(Str.ofString (toString y1))]) else none)) a0).bind fun zs4 =>
 if zs4.length ≤ sizeLine then if ((zs4).map (·.length)).sum + (zs4).length * ((" " : Str)).length ≤ 16777216 then some (Txt.join (" " : Str) zs4) else none else none
theorem x_format_signal (a0 : (List Int)) {r : (Str)} (h : p_format_signal a0 = some r) : outF m_format_signal [.sh (.list (a0.map enc))] [.dead] = some (.sh (.str r), [.dead]) := by
  unfold m_format_signal
  refine bj_fall (m := p_format_signal a0) (o := fun (r : (Str)) => .rt (.sh (.str r)) ([.dead])) (a := ⟨[.da (.list (a0.map enc)), .un], [.dead]⟩) ?_ rfl h rfl
  unfold p_format_signal
  exact (
 bj_bind fun zs4 hzs4 =>
 bj_g fun hg5 => bj_g fun hg8 => bj_retq (j_joinT (ys := zs4) j_lit (j_compE (e := PyData.int) (e' := PyData.str) (ls := []) (step := fun y1 => (if (y1).natAbs.log2 < 1920 then (some [(Str.ofString (toString y1))]) else none)) (zs := zs4) (ji_seq (j_varD rfl) rfl) rfl rfl rfl hzs4 hg5 (fun _ y1 _ h3 => (match gE h3 with | ⟨hg2, e7⟩ => match sE e7 with | rfl => ⟨⟨[.da (.list (a0.map enc)), .da (.int y1)], [.dead]⟩, rfl, ct_one jt_yes (j_g1 (j_varD rfl) rfl (o_strI hg2)) rfl⟩)) rfl) rfl hg8) rfl rfl)

@[irreducible] noncomputable def p_require_string (a0 : Str) : Option (Unit) :=
 (if false = true then none else some () : Option (Unit)).bind fun j1 =>
 some ()
theorem x_require_string (a0 : Str) {r : (Unit)} (h : p_require_string a0 = some r) : outF m_require_string [.sh (.str a0)] [.dead] = some (.sh (.none), [.dead]) := by
  unfold m_require_string
  refine bj_fall (m := p_require_string a0) (o := fun (r : (Unit)) => .rt (.sh (.none)) ([.dead])) (a := ⟨[.da (.str a0)], [.dead]⟩) ?_ rfl h rfl
  unfold p_require_string
  exact (
 bj_seqb (A := fun (j1 : Unit) => ⟨[.da (.str a0)], [.dead]⟩) (bj_if (a1 := ⟨[.da (.str a0)], [.dead]⟩) (jt_eq (b1 := false) (jt_not (jt_truB (j_one (j_varD rfl) rfl rd1_isi) rfl)) rfl) (fun _ => bj_none)
 (fun _ => bj_endnx rfl ⟨(.s .nil), rfl⟩))
 (fun j1 => bj_retN rfl))

@[irreducible] noncomputable def p_words_of (a0 : Str) : Option ((List Str)) :=
 if (decide (a0 = ("" : Str))) = true then some ([] : (List Str))
 else if (((" " : Str)).length == 0) = false ∧ (a0).length + 2 ≤ sizeLine then some (Txt.split a0 (" " : Str)) else none
theorem x_words_of (a0 : Str) {r : ((List Str))} (h : p_words_of a0 = some r) : outF m_words_of [.sh (.str a0)] [.dead] = some (.new (r.map enc), [.dead]) := by
  unfold m_words_of
  refine bj_fall (m := p_words_of a0) (o := fun (r : ((List Str))) => .rt (.new (r.map enc)) ([.dead])) (a := ⟨[.da (.str a0)], [.dead]⟩) ?_ rfl h rfl
  unfold p_words_of
  exact (
 bj_assoc (bj_ifr (a1 := ⟨[.da (.str a0)], [.dead]⟩) (jt_bool (j_two (j_varD rfl) j_lit rfl rfl (rd_eqT (τ := Str) (x := a0) (y := ("" : Str)) (eq_okS _ _)))) (fun _ => bj_retq (j_lst ja_nil rfl) rfl rfl)
 (fun _ => bj_skip (bj_g fun hg1 => bj_retq (j_split (j_varD rfl) j_lit rfl hg1) rfl rfl))))

@[irreducible] noncomputable def p_integer_of (a0 : Str) : Option ((Option Int)) :=
 if (a0).length ≤ sizeLine then (if (decide ((L2.cutS a0 none (some (1 : Int))) = ("-" : Str))) = true then (if (a0).length ≤ sizeLine then (some (L2.cutS a0 (some (1 : Int)) none)) else none) else (some a0)).bind fun v3 =>
 if v3.length ≤ sizeLine then (if (!((decide ((1 : Int) ≤ (v3.length : Int))) && (decide ((v3.length : Int) ≤ (30 : Int))))) = true then (some true) else ((compB (fun (y7 : Str) => ((inOne y7 ("0123456789" : Str)).bind fun i8 => (some [(i8)]))) (sgns v3)).bind fun zs10 => (if zs10.length ≤ sizeLine then (some (!(zs10.all id))) else none))).bind fun c14 =>
 if c14 = true then some (none : (Option Int))
 else if (v3).length ≤ sizeLine then (sAt v3 (0 : Int)).bind fun x19 =>
 if ((decide (x19 = ("0" : Str))) && (!decide (a0 = ("0" : Str)))) = true then some (none : (Option Int))
 else if (a0).length ≤ 640 then (PySem.intText? a0).bind fun n21 =>
 some (some n21) else none else none else none else none
theorem x_integer_of (a0 : Str) {r : ((Option Int))} (h : p_integer_of a0 = some r) : outF m_integer_of [.sh (.str a0)] [.dead] = some (.sh (enc r), [.dead]) := by
  unfold m_integer_of
  refine bj_fall (m := p_integer_of a0) (o := fun (r : ((Option Int))) => .rt (.sh (enc r)) ([.dead])) (a := ⟨[.da (.str a0), .un, .un], [.dead]⟩) ?_ rfl h rfl
  unfold p_integer_of
  exact (
 bj_assoc (bj_g fun hg1 => bj_bind fun v3 hv3 =>
 bj_d (a1 := ⟨[.da (.str a0), .da (.str v3), .un], [.dead]⟩) (dj_set (j_ite (v := .da (.str v3)) (a2 := ⟨[.da (.str a0), .un, .un], [.dead]⟩) (jt_bool (j_two (j_sliS (j_varD rfl) jo_no (jo_some j_lit) rfl hg1) j_lit rfl rfl (rd_eqT (τ := Str) (x := (L2.cutS a0 none (some (1 : Int)))) (y := ("-" : Str)) (eq_okS _ _)))) (fun b4 => (match gE (ifT b4 hv3) with | ⟨hg2, e5⟩ => match sE e5 with | rfl => (j_sliS (j_varD rfl) (jo_some j_lit) jo_no rfl hg2))) (fun b4 => (match sE (ifF b4 hv3) with | rfl => (j_varD rfl)))) rfl) (bj_assoc (bj_g fun hg6 => bj_bind fun c14 hc14 =>
 bj_ifr (a1 := ⟨[.da (.str a0), .da (.str v3), .un], [.dead]⟩) (jt_or (b := c14) (a2 := ⟨[.da (.str a0), .da (.str v3), .un], [.dead]⟩) (jt_not (jt_bool (j_chain j_lit (j_g1 (j_varD rfl) rfl (o_lenS hg6)) rfl rfl rd_le (fun _ => j_lit) rfl rd_le))) (fun b15 => (match bE (ifF b15 hc14) with | ⟨zs10, hzs10, e16⟩ => match gE e16 with | ⟨hg11, e17⟩ => match sE e17 with | rfl => (jt_not (jt_truB (j_g1 (j_compE (e := PyData.str) (e' := PyData.bool) (ls := []) (step := fun y7 => ((inOne y7 ("0123456789" : Str)).bind fun i8 => (some [(i8)]))) (zs := zs10) (ji_str (j_varD rfl) rfl) rfl rfl rfl hzs10 hg11 (fun _ y7 _ h9 => (match bE h9 with | ⟨i8, hi8, e13⟩ => match sE e13 with | rfl => ⟨⟨[.da (.str a0), .da (.str v3), .da (.str y7)], [.dead]⟩, rfl, ct_one jt_yes (j_two (j_varD rfl) j_lit rfl rfl (rd_inSg hi8)) rfl⟩)) rfl) rfl (o_all (xs := zs10))) rfl)))) (fun b15 => match sE (ifT b15 hc14) with | rfl => ⟨rfl, rfl⟩)) (fun _ => bj_retq j_lit rfl rfl)
 (fun _ => bj_skip (bj_assoc (bj_g fun hg18 => bj_bind fun x19 hx19 =>
 bj_ifr (a1 := ⟨[.da (.str a0), .da (.str v3), .un], [.dead]⟩) (jt_and' (jt_bool (j_two (j_two (j_varD rfl) j_lit rfl rfl (rd_ixS hg18 hx19)) j_lit rfl rfl (rd_eqT (τ := Str) (x := x19) (y := ("0" : Str)) (eq_okS _ _)))) (fun _ => (jt_bool (j_two (j_varD rfl) j_lit rfl rfl (rd_neT (τ := Str) (x := a0) (y := ("0" : Str)) (eq_okS _ _)))))) (fun _ => bj_retq j_lit rfl rfl)
 (fun _ => bj_skip (bj_g fun hg20 => bj_bind fun n21 hn21 =>
 bj_retq (j_g1 (j_varD rfl) rfl (o_intT hg20 hn21)) rfl rfl)))))))))

@[irreducible] noncomputable def p_parse_signal (a0 : Str) : Option ((List Int)) :=
 (p_require_string a0).bind fun r1 =>
 (p_words_of a0).bind fun r2 =>
 (loopM (fun (s3 : (List Int)) (i4 : (T2 Int Str)) =>
 (p_integer_of i4.b).bind fun r25 =>
 (if (r25.isNone) = true then (some true) else ((if (decide ((800 : Int) ≤ i4.a)) = true then (some true) else ((if (!decide (s3 = ([] : (List Int)))) = true then ((L2.atI s3 (-(1 : Int))).bind fun x26 => ((r25).bind fun y27 => (some (decide (y27 ≤ x26))))) else (some false)).bind fun c28 => (some c28))).bind fun c32 => (some c32))).bind fun c35 =>
 (if c35 = true then none else (r25).bind fun tick41 =>
 some tick41 : Option (Int)).bind fun j40 =>
 if s3.length < sizeLine then letP ((s3 ++ [j40]) : (List Int)) fun w44 =>
 some w44 else none) (enumL ((0 : Nat) : Int) r2) (([] : (List Int)) : (List Int))).bind fun s3 =>
 some s3
theorem x_parse_signal (a0 : Str) {r : ((List Int))} (h : p_parse_signal a0 = some r) : outF m_parse_signal [.sh (.str a0)] [.dead] = some (.new (r.map enc), [.dead]) := by
  unfold m_parse_signal
  refine bj_fall (m := p_parse_signal a0) (o := fun (r : ((List Int))) => .rt (.new (r.map enc)) ([.dead])) (a := ⟨[.da (.str a0), .un, .un, .un, .un], [.dead]⟩) ?_ rfl h rfl
  unfold p_parse_signal
  exact (
 bj_assoc (bj_bind fun r1 hr1 =>
 bj_d (a1 := ⟨[.da (.str a0), .un, .un, .un, .un], [.dead]⟩) (dj_expr (j_callE (ja_cons (j_varD rfl) ja_nil) ja_nil ⟨rfl, rfl⟩ rfl rfl (x_require_string a0 hr1) rfl (ok_sh _ r1) rfl rfl)) (bj_assoc (bj_d (a1 := ⟨[.da (.str a0), .ow (.lv (([] : (List Int)).map enc)), .un, .un, .un], [.dead]⟩) (dj_set (j_lst ja_nil rfl) rfl) (bj_assoc (bj_bind fun r2 hr2 =>
 bj_seqb (A := fun (s3 : (List Int)) => ⟨[.un, .ow (.lv (s3.map enc)), .un, .un, .un], [.dead]⟩) (bj_for (a1 := ⟨[.da (.str a0), .ow (.lv (([] : (List Int)).map enc)), .un, .un, .un], [.dead]⟩) (e := (enc : (T2 Int Str) → D)) (E := fun (s3 : (List Int)) => ⟨[.un, .ow (.lv (s3.map enc)), .un, .un, .un], [.dead]⟩) (ls := []) (ys := (enumL ((0 : Nat) : Int) r2)) (x0 := (([] : (List Int)) : (List Int))) (ji_eq (ji_enum (j_callE (ja_cons (j_varD rfl) ja_nil) ja_nil ⟨rfl, rfl⟩ rfl rfl (x_words_of a0 hr2) rfl (ok_new _ r2) rfl rfl) rfl) (enum_map 0 r2)) ⟨(wk_da (.s (.s (.s (.s .nil))))), rfl⟩ (fun _ => rfl) (fun _ => rfl) (fun _ => rfl) (fun s3 i4 => ⟨⟨[.un, .ow (.lv (s3.map enc)), .da (.int i4.a), .da (.str i4.b), .un], [.dead]⟩, rfl, bj_sk (
 bj_assoc (bj_bind fun r25 hr25 =>
 bj_d (a1 := ⟨[.un, .ow (.lv (s3.map enc)), .da (.int i4.a), .da (.str i4.b), .da (enc r25)], [.dead]⟩) (dj_set (j_callE (ja_cons (j_varD rfl) ja_nil) ja_nil ⟨rfl, rfl⟩ rfl rfl (x_integer_of i4.b hr25) rfl (ok_sh _ r25) rfl rfl) rfl) (bj_assoc (bj_bind fun c35 hc35 =>
 bj_seqb (A := fun (j40 : Int) => ⟨[.un, .ow (.lv (s3.map enc)), .da (.int i4.a), .da (.str i4.b), .da (.int j40)], [.dead]⟩) (bj_if (a1 := ⟨[.un, .ow (.lv (s3.map enc)), .da (.int i4.a), .da (.str i4.b), .da (enc r25)], [.dead]⟩) (jt_or (b := c35) (a2 := ⟨[.un, .ow (.lv (s3.map enc)), .da (.int i4.a), .da (.str i4.b), .da (enc r25)], [.dead]⟩) (jt_bool (j_one (j_varD rfl) rfl rd_isN)) (fun b36 => (match bE (ifF b36 hc35) with | ⟨c32, hc32, e37⟩ => match sE e37 with | rfl => (jt_or (b := c32) (a2 := ⟨[.un, .ow (.lv (s3.map enc)), .da (.int i4.a), .da (.str i4.b), .da (enc r25)], [.dead]⟩) (jt_bool (j_two (j_varD rfl) j_lit rfl rfl rd_ge)) (fun b33 => (match bE (ifF b33 hc32) with | ⟨c28, hc28, e34⟩ => match sE e34 with | rfl => (jt_and (b := c28) (a2 := ⟨[.un, .ow (.lv (s3.map enc)), .da (.int i4.a), .da (.str i4.b), .da (enc r25)], [.dead]⟩) (jt_bool (j_two (j_var rfl) (j_lst ja_nil rfl) rfl rfl (rd_neT (τ := (List Int)) (x := s3) (y := ([] : (List Int))) (eq_ok _ _)))) (fun b29 => (match bE (ifT b29 hc28) with | ⟨x26, hx26, e30⟩ => match bE e30 with | ⟨y27, hy27, e31⟩ => match sE e31 with | rfl => (jt_bool (j_two (j_eq (j_varD rfl) (congrArg (fun (z : (Option Int)) => RV.da (enc z)) hy27)) (j_ixL (e := PyData.int) (xs := s3) (j_var rfl) (j_one j_lit rfl rd1_neg) rfl rfl hx26) rfl rfl rd_le)))) (fun b29 => match sE (ifF b29 hc28) with | rfl => ⟨rfl, rfl⟩)))) (fun b33 => match sE (ifT b33 hc32) with | rfl => ⟨rfl, rfl⟩)))) (fun b36 => match sE (ifT b36 hc35) with | rfl => ⟨rfl, rfl⟩)) (fun _ => bj_sk (bj_none))
 (fun _ => bj_bind fun tick41 htick41 => bj_rw (A := fun (z42 : (Option Int)) => ⟨[.un, .ow (.lv (s3.map enc)), .da (.int i4.a), .da (.str i4.b), .da (enc z42)], [.dead]⟩) htick41 (bj_endnx rfl ⟨(.s (.s (.s (.s (.s .nil))))), rfl⟩)))
 (fun j40 => bj_g fun hg43 => bj_set (e := ((s3 ++ [j40]) : (List Int))) (A := fun (w44 : (List Int)) => ⟨[.un, .ow (.lv (w44.map enc)), .da (.int i4.a), .da (.str i4.b), .da (.int j40)], [.dead]⟩) (dj_expr (j_appL (e := PyData.int) (xs := s3) (x := j40) rfl (j_varD rfl) rfl rfl hg43 rfl)) (fun w44 =>
 bj_endgo rfl ⟨(.s (.s (wk_da (wk_da (wk_da .nil))))), rfl⟩))))))⟩))
 (fun s3 => bj_retq (j_var rfl) rfl rfl)))))))

@[irreducible] noncomputable def p__law_signal_right (a0 : (List Int)) : Option (Bool) :=
 letP (("" : Str) : Str) fun w1 =>
 (loopM (fun (s2 : Str) (i3 : (T2 Int Int)) =>
 (mulT (" " : Str) (if (decide ((0 : Int) < i3.a)) = true then 1 else 0 : Int)).bind fun x9 =>
 if s2.length + x9.length ≤ sizeLine then if (i3.b).natAbs.log2 < 1920 then if (s2 ++ x9).length + (Str.ofString (toString i3.b)).length ≤ sizeLine then letP (((s2 ++ x9) ++ (Str.ofString (toString i3.b))) : Str) fun due13 =>
 some due13 else none else none else none) (enumL ((0 : Nat) : Int) a0) (w1 : Str)).bind fun s2 =>
 (p_format_signal a0).bind fun r14 =>
 if shwOk (PyData.str r14) then if shwOk (PyData.str s2) then if ((!decide ((PyData.shown (PyData.str r14)) = (PyData.shown (PyData.str s2)))) || (!decide (a0 = a0))) = true then some false
 else (p_parse_signal s2).bind fun r17 =>
 if shwOk (enc r17 : D) then if shwOk (enc a0 : D) then if (!decide ((PyData.shown (enc r17 : D)) = (PyData.shown (enc a0 : D)))) = true then some false
 else if r17.length < sizeLine then letP ((r17 ++ [(0 : Int)]) : (List Int)) fun w21 =>
 (p_parse_signal s2).bind fun r22 =>
 if shwOk (enc r22 : D) then if shwOk (enc a0 : D) then (if (decide ((PyData.shown (enc r22 : D)) = (PyData.shown (enc a0 : D)))) = true then ((p_format_signal a0).bind fun r25 => (some (decide (r25 = s2)))) else (some false)).bind fun c26 =>
 some c26 else none else none else none else none else none else none else none
theorem x__law_signal_right (a0 : (List Int)) {r : (Bool)} (h : p__law_signal_right a0 = some r) : outF m__law_signal_right [.sh (.list (a0.map enc))] [.dead] = some (.sh (.bool r), [.dead]) := by
  unfold m__law_signal_right
  refine bj_fall (m := p__law_signal_right a0) (o := fun (r : (Bool)) => .rt (.sh (.bool r)) ([.dead])) (a := ⟨[.da (.list (a0.map enc)), .un, .un, .un, .un, .un], [.dead]⟩) ?_ rfl h rfl
  unfold p__law_signal_right
  exact (
 bj_assoc (bj_set (e := (("" : Str) : Str)) (A := fun (w1 : Str) => ⟨[.da (.list (a0.map enc)), .da (.str w1), .ow (.lv (a0.map enc)), .un, .un, .un], [.dead]⟩) (dj_par2 (ja_cons j_lit (ja_cons (j_g1N (j_varD rfl) rfl o_list) ja_nil)) rfl rfl) (fun w1 =>
 bj_assoc (bj_seqb (A := fun (s2 : Str) => ⟨[.da (.list (a0.map enc)), .da (.str s2), .ow (.lv (a0.map enc)), .un, .un, .un], [.dead]⟩) (bj_for (a1 := ⟨[.da (.list (a0.map enc)), .da (.str w1), .ow (.lv (a0.map enc)), .un, .un, .un], [.dead]⟩) (e := (enc : (T2 Int Int) → D)) (E := fun (s2 : Str) => ⟨[.da (.list (a0.map enc)), .da (.str s2), .ow (.lv (a0.map enc)), .un, .un, .un], [.dead]⟩) (ls := []) (ys := (enumL ((0 : Nat) : Int) a0)) (x0 := (w1 : Str)) (ji_eq (ji_enum (j_varD rfl) rfl) (enum_map 0 a0)) ⟨(.s (.s (.s (.s (.s (.s .nil)))))), rfl⟩ (fun _ => rfl) (fun _ => rfl) (fun _ => rfl) (fun s2 i3 => ⟨⟨[.da (.list (a0.map enc)), .da (.str s2), .ow (.lv (a0.map enc)), .da (.int i3.a), .da (.int i3.b), .un], [.dead]⟩, rfl, bj_sk (
 bj_bind fun x9 hx9 =>
 bj_g fun hg10 => bj_g fun hg11 => bj_g fun hg12 => bj_set (e := ((s2 ++ x9) ++ (Str.ofString (toString i3.b)))) (A := fun (due13 : Str) => ⟨[.da (.list (a0.map enc)), .da (.str due13), .ow (.lv (a0.map enc)), .da (.int i3.a), .da (.int i3.b), .un], [.dead]⟩) (dj_set (j_two (j_two (j_varD rfl) (j_two j_lit (j_g1 (j_two (j_varD rfl) j_lit rfl rfl rd_gt) rfl o_intB) rfl rfl (rd_mulT hx9)) rfl rfl (rd_addS hg10)) (j_g1 (j_varD rfl) rfl (o_strI hg11)) rfl rfl (rd_addS hg12)) rfl) (fun due13 =>
 bj_endgo rfl ⟨(.s (.s (.s (wk_da (wk_da (.s .nil)))))), rfl⟩))⟩))
 (fun s2 => bj_assoc (bj_bind fun r14 hr14 =>
 bj_g fun hg15 => bj_g fun hg16 => bj_ifr (a1 := ⟨[.da (.list (a0.map enc)), .da (.str s2), .ow (.lv (a0.map enc)), .un, .un, .un], [.dead]⟩) (jt_or' (jt_bool (j_two (j_g1 (j_callE (ja_cons (j_var rfl) ja_nil) ja_nil ⟨rfl, rfl⟩ rfl rfl (x_format_signal a0 hr14) rfl (ok_sh _ r14) rfl rfl) rfl (o_repr (d := (PyData.str r14)) hg15)) (j_g1 (j_varD rfl) rfl (o_repr (d := (PyData.str s2)) hg16)) rfl rfl (rd_neT (τ := Str) (x := (PyData.shown (PyData.str r14))) (y := (PyData.shown (PyData.str s2))) (eq_okS _ _)))) (fun _ => (jt_bool (j_two (j_var rfl) (j_varD rfl) rfl rfl (rd_neT (τ := (List Int)) (x := a0) (y := a0) (eq_ok _ _)))))) (fun _ => bj_retq j_lit rfl rfl)
 (fun _ => bj_skip (bj_assoc (bj_bind fun r17 hr17 =>
 bj_d (a1 := ⟨[.da (.list (a0.map enc)), .da (.str s2), .ow (.lv (a0.map enc)), .un, .un, .ow (.lv (r17.map enc))], [.dead]⟩) (dj_set (j_callE (ja_cons (j_varD rfl) ja_nil) ja_nil ⟨rfl, rfl⟩ rfl rfl (x_parse_signal s2 hr17) rfl (ok_new _ r17) rfl rfl) rfl) (bj_assoc (bj_g fun hg18 => bj_g fun hg19 => bj_ifr (a1 := ⟨[.da (.list (a0.map enc)), .da (.str s2), .ow (.lv (a0.map enc)), .un, .un, .ow (.lv (r17.map enc))], [.dead]⟩) (jt_bool (j_two (j_g1 (j_var rfl) rfl (o_repr (d := (enc r17 : D)) hg18)) (j_g1 (j_varD rfl) rfl (o_repr (d := (enc a0 : D)) hg19)) rfl rfl (rd_neT (τ := Str) (x := (PyData.shown (enc r17 : D))) (y := (PyData.shown (enc a0 : D))) (eq_okS _ _)))) (fun _ => bj_retq j_lit rfl rfl)
 (fun _ => bj_skip (bj_assoc (bj_g fun hg20 => bj_set (e := ((r17 ++ [(0 : Int)]) : (List Int))) (A := fun (w21 : (List Int)) => ⟨[.da (.list (a0.map enc)), .da (.str s2), .ow (.lv (a0.map enc)), .un, .un, .ow (.lv (w21.map enc))], [.dead]⟩) (dj_expr (j_appL (e := PyData.int) (xs := r17) (x := (0 : Int)) rfl j_lit rfl rfl hg20 rfl)) (fun w21 =>
 bj_bind fun r22 hr22 =>
 bj_g fun hg23 => bj_g fun hg24 => bj_bind fun c26 hc26 =>
 bj_retq (j_and (b := c26) (a2 := ⟨[.da (.list (a0.map enc)), .da (.str s2), .ow (.lv (a0.map enc)), .un, .un, .ow (.lv (w21.map enc))], [.dead]⟩) (j_two (j_g1 (j_callE ja_nil (ja_cons (j_varD rfl) ja_nil) ⟨rfl, rfl⟩ rfl rfl (x_parse_signal s2 hr22) rfl (ok_new _ r22) rfl rfl) rfl (o_repr (d := (enc r22 : D)) hg23)) (j_g1 (j_varD rfl) rfl (o_repr (d := (enc a0 : D)) hg24)) rfl rfl (rd_eqT (τ := Str) (x := (PyData.shown (enc r22 : D))) (y := (PyData.shown (enc a0 : D))) (eq_okS _ _))) (fun b27 => (match bE (ifT b27 hc26) with | ⟨r25, hr25, e28⟩ => match sE e28 with | rfl => (j_two (j_callE ja_nil (ja_cons (j_var rfl) ja_nil) ⟨rfl, rfl⟩ rfl rfl (x_format_signal a0 hr25) rfl (ok_sh _ r25) rfl rfl) (j_varD rfl) rfl rfl (rd_eqT (τ := Str) (x := r25) (y := s2) (eq_okS _ _))))) (fun b27 => match sE (ifF b27 hc26) with | rfl => ⟨rfl, rfl⟩)) rfl rfl)))))))))))))))

@[irreducible] noncomputable def p_is_integer (a0 : Int) : Option (Bool) :=
 some (!false)
theorem x_is_integer (a0 : Int) {r : (Bool)} (h : p_is_integer a0 = some r) : outF m_is_integer [.sh (.int a0)] [.dead] = some (.sh (.bool r), [.dead]) := by
  unfold m_is_integer
  refine bj_fall (m := p_is_integer a0) (o := fun (r : (Bool)) => .rt (.sh (.bool r)) ([.dead])) (a := ⟨[.da (.int a0)], [.dead]⟩) ?_ rfl h rfl
  unfold p_is_integer
  exact (
 bj_retq (j_and (b := (!false)) (a2 := ⟨[.da (.int a0)], [.dead]⟩) (j_one (j_varD rfl) rfl rd1_isi) (fun _ => (j_one (j_one (j_varD rfl) rfl rd1_isi) rfl rd_notB)) (fun h => by cases h)) rfl rfl)

@[irreducible] noncomputable def p_signal_fault (a0 : (List Int)) (a1 : Int) : Option (D) :=
 if (decide (a1 < (a0.length : Int))) = true then some (enc (⟨()⟩ : (T1 Unit)) : D)
 else (loopF (ρ := (D)) (fun (s1 : Unit) (i2 : (T2 Int Int)) =>
 (p_is_integer i2.b).bind fun r11 =>
 (if (!r11) = true then (some true) else ((if (decide ((0 : Int) < i2.a)) = true then ((L2.atI a0 (i2.a - (1 : Int))).bind fun x12 => (some (decide (i2.b ≤ x12)))) else (some false)).bind fun c13 => (some c13))).bind fun c16 =>
 if c16 = true then some (.rt (enc (⟨i2.a⟩ : (T1 Int)) : D))
 else some (.nx ())) (enumL ((0 : Nat) : Int) a0) (() : Unit)).bind (Lr.elim (fun s1 =>
 some (PyData.tuple [])) (fun r => some r))
theorem x_signal_fault (a0 : (List Int)) (a1 : Int) {r : (D)} (h : p_signal_fault a0 a1 = some r) : outF m_signal_fault [.sh (.list (a0.map enc)), .sh (.int a1)] [.dead, .dead] = some (.sh (r), [.dead, .dead]) := by
  unfold m_signal_fault
  refine bj_fall (m := p_signal_fault a0 a1) (o := fun (r : (D)) => .rt (.sh (r)) ([.dead, .dead])) (a := ⟨[.da (.list (a0.map enc)), .da (.int a1), .un, .un], [.dead, .dead]⟩) ?_ rfl h rfl
  unfold p_signal_fault
  exact (
 bj_assoc (bj_ifr (a1 := ⟨[.da (.list (a0.map enc)), .da (.int a1), .un, .un], [.dead, .dead]⟩) (jt_or (b := (decide (a1 < (a0.length : Int)))) (a2 := ⟨[.da (.list (a0.map enc)), .da (.int a1), .un, .un], [.dead, .dead]⟩) (jt_eq (b1 := false) (jt_not (jt_truB (j_one (j_varD rfl) rfl rd1_isi) rfl)) rfl) (fun _ => (jt_bool (j_two (j_g1 (j_varD rfl) rfl (o_lenM (e := PyData.int) (xs := a0))) (j_varD rfl) rfl rfl rd_gt))) (fun h => by cases h)) (fun _ => bj_retq (j_tup (ja_cons j_lit ja_nil) rfl) rfl rfl)
 (fun _ => bj_skip (bj_assoc (bj_seqL (A := fun (s1 : Unit) => ⟨[.da (.list (a0.map enc)), .un, .un, .un], [.dead, .dead]⟩) (V := fun (r : (D)) => .sh (r)) (B := fun (r : (D)) => [.dead, .dead]) (bj_forF (a1 := ⟨[.da (.list (a0.map enc)), .da (.int a1), .un, .un], [.dead, .dead]⟩) (e := (enc : (T2 Int Int) → D)) (E := fun (s1 : Unit) => ⟨[.da (.list (a0.map enc)), .un, .un, .un], [.dead, .dead]⟩) (ls := []) (ys := (enumL ((0 : Nat) : Int) a0)) (x0 := (() : Unit)) (V := fun (r : (D)) => .sh (r)) (B := fun (r : (D)) => [.dead, .dead]) (ji_eq (ji_enum (j_varD rfl) rfl) (enum_map 0 a0)) ⟨(.s (wk_da (.s (.s .nil)))), rfl⟩ (fun _ => rfl) (fun _ => rfl) (fun _ => rfl) (fun s1 i2 => ⟨⟨[.da (.list (a0.map enc)), .un, .da (.int i2.a), .da (.int i2.b)], [.dead, .dead]⟩, rfl, bj_sk (
 bj_bind fun r11 hr11 =>
 bj_bind fun c16 hc16 =>
 bj_ifr (a1 := ⟨[.da (.list (a0.map enc)), .un, .da (.int i2.a), .da (.int i2.b)], [.dead, .dead]⟩) (jt_or (b := c16) (a2 := ⟨[.da (.list (a0.map enc)), .un, .da (.int i2.a), .da (.int i2.b)], [.dead, .dead]⟩) (jt_not (jt_truB (j_callE (ja_cons (j_varD rfl) ja_nil) ja_nil ⟨rfl, rfl⟩ rfl rfl (x_is_integer i2.b hr11) rfl (ok_sh _ r11) rfl rfl) rfl)) (fun b17 => (match bE (ifF b17 hc16) with | ⟨c13, hc13, e18⟩ => match sE e18 with | rfl => (jt_and (b := c13) (a2 := ⟨[.da (.list (a0.map enc)), .un, .da (.int i2.a), .da (.int i2.b)], [.dead, .dead]⟩) (jt_bool (j_two (j_varD rfl) j_lit rfl rfl rd_gt)) (fun b14 => (match bE (ifT b14 hc13) with | ⟨x12, hx12, e15⟩ => match sE e15 with | rfl => (jt_bool (j_two (j_varD rfl) (j_ixL (e := PyData.int) (xs := a0) (j_varD rfl) (j_two (j_varD rfl) j_lit rfl rfl rd_sub) rfl rfl hx12) rfl rfl rd_le)))) (fun b14 => match sE (ifF b14 hc13) with | rfl => ⟨rfl, rfl⟩)))) (fun b17 => match sE (ifT b17 hc16) with | rfl => ⟨rfl, rfl⟩)) (fun _ => bj_retq (j_tup (ja_cons (j_varD rfl) ja_nil) rfl) rfl rfl)
 (fun _ => bj_skip (bj_endgo rfl ⟨(.s (.s (wk_da (wk_da .nil)))), rfl⟩)))⟩))
 (fun s1 => bj_el (bj_retq (j_tup ja_nil rfl) rfl rfl)) (fun r => ⟨_, rfl, rfl⟩))))))

@[irreducible] noncomputable def p_require_signal (a0 : (List Int)) (a1 : Int) : Option (Unit) :=
 (p_signal_fault a0 a1).bind fun r1 =>
 if eqOk r1 (PyData.tuple []) = true then (if (!PyData.eqv r1 (PyData.tuple [])) = true then none else some () : Option (Unit)).bind fun j3 =>
 some () else none
theorem x_require_signal (a0 : (List Int)) (a1 : Int) {r : (Unit)} (h : p_require_signal a0 a1 = some r) : outF m_require_signal [.sh (.list (a0.map enc)), .sh (.int a1)] [.dead, .dead] = some (.sh (.none), [.dead, .dead]) := by
  unfold m_require_signal
  refine bj_fall (m := p_require_signal a0 a1) (o := fun (r : (Unit)) => .rt (.sh (.none)) ([.dead, .dead])) (a := ⟨[.da (.list (a0.map enc)), .da (.int a1), .un], [.dead, .dead]⟩) ?_ rfl h rfl
  unfold p_require_signal
  exact (
 bj_assoc (bj_bind fun r1 hr1 =>
 bj_d (a1 := ⟨[.da (.list (a0.map enc)), .da (.int a1), .da (r1)], [.dead, .dead]⟩) (dj_set (j_callE (ja_cons (j_varD rfl) (ja_cons (j_varD rfl) ja_nil)) ja_nil ⟨rfl, rfl⟩ rfl rfl (x_signal_fault a0 a1 hr1) rfl rfl rfl rfl) rfl) (bj_g fun hg2 => bj_seqb (A := fun (j3 : Unit) => ⟨[.da (.list (a0.map enc)), .da (.int a1), .da (r1)], [.dead, .dead]⟩) (bj_if (a1 := ⟨[.da (.list (a0.map enc)), .da (.int a1), .da (r1)], [.dead, .dead]⟩) (jt_bool (j_two (j_varD rfl) (j_tup ja_nil rfl) rfl rfl (rd_neD (x := r1) (y := (PyData.tuple [])) hg2))) (fun _ => bj_sk (bj_none))
 (fun _ => bj_endnx rfl ⟨(.s (.s (.s .nil))), rfl⟩))
 (fun j3 => bj_retN rfl))))

@[irreducible] noncomputable def p_is_at_least (a0 : Int) (a1 : Int) : Option (Bool) :=
 (p_is_integer a0).bind fun r1 =>
 some (r1 && (decide (a1 ≤ a0)))
theorem x_is_at_least (a0 : Int) (a1 : Int) {r : (Bool)} (h : p_is_at_least a0 a1 = some r) : outF m_is_at_least [.sh (.int a0), .sh (.int a1)] [.dead, .dead] = some (.sh (.bool r), [.dead, .dead]) := by
  unfold m_is_at_least
  refine bj_fall (m := p_is_at_least a0 a1) (o := fun (r : (Bool)) => .rt (.sh (.bool r)) ([.dead, .dead])) (a := ⟨[.da (.int a0), .da (.int a1)], [.dead, .dead]⟩) ?_ rfl h rfl
  unfold p_is_at_least
  exact (
 bj_bind fun r1 hr1 =>
 bj_retq (j_and' (j_callE (ja_cons (j_varD rfl) ja_nil) ja_nil ⟨rfl, rfl⟩ rfl rfl (x_is_integer a0 hr1) rfl (ok_sh _ r1) rfl rfl) (fun _ => (j_two (j_varD rfl) (j_varD rfl) rfl rfl rd_ge))) rfl rfl)

@[irreducible] noncomputable def p_require_at_least (a0 : Int) (a1 : Int) : Option (Unit) :=
 (p_is_at_least a0 a1).bind fun r1 =>
 (if (!r1) = true then none else some () : Option (Unit)).bind fun j2 =>
 some ()
theorem x_require_at_least (a0 : Int) (a1 : Int) {r : (Unit)} (h : p_require_at_least a0 a1 = some r) : outF m_require_at_least [.sh (.int a0), .sh (.int a1)] [.dead, .dead] = some (.sh (.none), [.dead, .dead]) := by
  unfold m_require_at_least
  refine bj_fall (m := p_require_at_least a0 a1) (o := fun (r : (Unit)) => .rt (.sh (.none)) ([.dead, .dead])) (a := ⟨[.da (.int a0), .da (.int a1)], [.dead, .dead]⟩) ?_ rfl h rfl
  unfold p_require_at_least
  exact (
 bj_bind fun r1 hr1 =>
 bj_seqb (A := fun (j2 : Unit) => ⟨[.da (.int a0), .da (.int a1)], [.dead, .dead]⟩) (bj_if (a1 := ⟨[.da (.int a0), .da (.int a1)], [.dead, .dead]⟩) (jt_not (jt_truB (j_callE (ja_cons (j_varD rfl) (ja_cons (j_varD rfl) ja_nil)) ja_nil ⟨rfl, rfl⟩ rfl rfl (x_is_at_least a0 a1 hr1) rfl (ok_sh _ r1) rfl rfl) rfl)) (fun _ => bj_sk (bj_none))
 (fun _ => bj_endnx rfl ⟨(.s (.s .nil)), rfl⟩))
 (fun j2 => bj_retN rfl))

@[irreducible] noncomputable def p_multiplied (a0 : (List Int)) (a1 : Int) : Option ((List Int)) :=
 (p_require_signal a0 ((800 : Int))).bind fun r1 =>
 (p_require_at_least a1 ((1 : Int))).bind fun r2 =>
 (compB (fun (y3 : Int) => (if cMul y3 a1 then (some [(y3 * a1)]) else none)) a0).bind fun zs6 =>
 if zs6.length ≤ sizeLine then some zs6 else none
theorem x_multiplied (a0 : (List Int)) (a1 : Int) {r : ((List Int))} (h : p_multiplied a0 a1 = some r) : outF m_multiplied [.sh (.list (a0.map enc)), .sh (.int a1)] [.dead, .dead] = some (.new (r.map enc), [.dead, .dead]) := by
  unfold m_multiplied
  refine bj_fall (m := p_multiplied a0 a1) (o := fun (r : ((List Int))) => .rt (.new (r.map enc)) ([.dead, .dead])) (a := ⟨[.da (.list (a0.map enc)), .da (.int a1), .un], [.dead, .dead]⟩) ?_ rfl h rfl
  unfold p_multiplied
  exact (
 bj_assoc (bj_bind fun r1 hr1 =>
 bj_d (a1 := ⟨[.da (.list (a0.map enc)), .da (.int a1), .un], [.dead, .dead]⟩) (dj_expr (j_callE (ja_cons (j_varD rfl) ja_nil) ja_nil ⟨rfl, rfl⟩ rfl rfl (x_require_signal a0 ((800 : Int)) hr1) rfl (ok_sh _ r1) rfl rfl)) (bj_assoc (bj_bind fun r2 hr2 =>
 bj_d (a1 := ⟨[.da (.list (a0.map enc)), .da (.int a1), .un], [.dead, .dead]⟩) (dj_expr (j_callE (ja_cons (j_varD rfl) (ja_cons j_lit ja_nil)) ja_nil ⟨rfl, rfl⟩ rfl rfl (x_require_at_least a1 ((1 : Int)) hr2) rfl (ok_sh _ r2) rfl rfl)) (bj_bind fun zs6 hzs6 =>
 bj_g fun hg7 => bj_retq (j_compE (e := PyData.int) (e' := PyData.int) (ls := []) (step := fun y3 => (if cMul y3 a1 then (some [(y3 * a1)]) else none)) (zs := zs6) (ji_seq (j_varD rfl) rfl) rfl rfl rfl hzs6 hg7 (fun _ y3 _ h5 => (match gE h5 with | ⟨hg4, e9⟩ => match sE e9 with | rfl => ⟨⟨[.da (.list (a0.map enc)), .da (.int a1), .da (.int y3)], [.dead, .dead]⟩, rfl, ct_one jt_yes (j_two (j_varD rfl) (j_varD rfl) rfl rfl (rd_mulI hg4)) rfl⟩)) rfl) rfl rfl)))))

@[irreducible] noncomputable def p__law_shape (a0 : (List Int)) : Option ((T3 Int Str Int) × (List Int)) :=
 (p__law_draw a0 ((3 : Int))).bind fun r1 =>
 (L2.atI ([("none" : Str), ("even" : Str), ("odd" : Str)] : (List Str)) r1.1).bind fun x2 =>
 (p__law_draw r1.2 ((9 : Int))).bind fun r3 =>
 (p__law_draw r3.2 ((2 : Int))).bind fun r4 =>
 some ((⟨((1 : Int) + r3.1), x2, ((1 : Int) + r4.1)⟩ : (T3 Int Str Int)), r4.2)
theorem x__law_shape (a0 : (List Int)) {r : ((T3 Int Str Int) × (List Int))} (h : p__law_shape a0 = some r) : outF m__law_shape [.own 0] [.lv (a0.map enc)] = some (.sh (enc r.1), [.lv (r.2.map enc)]) := by
  unfold m__law_shape
  refine bj_fall (m := p__law_shape a0) (o := fun (r : ((T3 Int Str Int) × (List Int))) => .rt (.sh (enc r.1)) ([.lv (r.2.map enc)])) (a := ⟨[.ar, .un], [.lv (a0.map enc)]⟩) ?_ rfl h rfl
  unfold p__law_shape
  exact (
 bj_assoc (bj_bind fun r1 hr1 =>
 bj_bind fun x2 hx2 =>
 bj_d (a1 := ⟨[.ar, .da (.str x2)], [.lv (r1.2.map enc)]⟩) (dj_set (j_ixL (e := PyData.str) (xs := ([("none" : Str), ("even" : Str), ("odd" : Str)] : (List Str))) (j_lst (ja_cons j_lit (ja_cons j_lit (ja_cons j_lit ja_nil))) rfl) (j_callE (ja_cons (j_var rfl) (ja_cons j_lit ja_nil)) ja_nil ⟨rfl, rfl⟩ rfl rfl (x__law_draw a0 ((3 : Int)) hr1) rfl (ok_sh _ r1.1) rfl rfl) rfl rfl hx2) rfl) (bj_bind fun r3 hr3 =>
 bj_bind fun r4 hr4 =>
 bj_retq (j_tup (ja_cons (j_two j_lit (j_callE (ja_cons (j_var rfl) (ja_cons j_lit ja_nil)) ja_nil ⟨rfl, rfl⟩ rfl rfl (x__law_draw r1.2 ((9 : Int)) hr3) rfl (ok_sh _ r3.1) rfl rfl) rfl rfl rd_addI) (ja_cons (j_varD rfl) (ja_cons (j_two j_lit (j_callE (ja_cons (j_var rfl) (ja_cons j_lit ja_nil)) ja_nil ⟨rfl, rfl⟩ rfl rfl (x__law_draw r3.2 ((2 : Int)) hr4) rfl (ok_sh _ r4.1) rfl rfl) rfl rfl rd_addI) ja_nil))) rfl) rfl rfl)))

@[irreducible] noncomputable def p__law_text (a0 : (List Int)) (a1 : (T3 Int Str Int)) (a2 : Int) : Option ((List Int) × (List Int)) :=
 letP ((1 : Int) : Int) fun most1 =>
 if small62 a1.a then (loopM (fun (s3 : Int) (i4 : Int) =>
 if cMul (2 : Int) s3 then letP (((2 : Int) * s3) : Int) fun most8 =>
 some most8 else none) (rngL 0 1 (a1.a).toNat) (most1 : Int)).bind fun s3 =>
 if small62 a2 then (loopM (fun (s18 : (List Int) × (List Int)) (i19 : Int) =>
 (p__law_draw s18.2 s3).bind fun r26 =>
 (p__law_draw r26.2 s3).bind fun r27 =>
 (p__law_draw r27.2 ((4 : Int))).bind fun r28 =>
 (L2.atI ([(0 : Int), (s3 - (1 : Int)), r26.1, r27.1] : (List Int)) r28.1).bind fun x29 =>
 if s18.1.length < sizeLine then letP ((s18.1 ++ [x29]) : (List Int)) fun w31 =>
 some (w31, r28.2) else none) (rngL 0 1 (a2).toNat) ((([] : (List Int)), a0) : (List Int) × (List Int))).bind fun s18 =>
 some (s18.1, s18.2) else none else none
theorem x__law_text (a0 : (List Int)) (a1 : (T3 Int Str Int)) (a2 : Int) {r : ((List Int) × (List Int))} (h : p__law_text a0 a1 a2 = some r) : outF m__law_text [.own 0, .sh (enc a1), .sh (.int a2)] [.lv (a0.map enc), .dead, .dead] = some (.new (r.1.map enc), [.lv (r.2.map enc), .dead, .dead]) := by
  unfold m__law_text
  refine bj_fall (m := p__law_text a0 a1 a2) (o := fun (r : ((List Int) × (List Int))) => .rt (.new (r.1.map enc)) ([.lv (r.2.map enc), .dead, .dead])) (a := ⟨[.ar, .da (enc a1), .da (.int a2), .un, .un, .un], [.lv (a0.map enc), .dead, .dead]⟩) ?_ rfl h rfl
  unfold p__law_text
  exact (
 bj_assoc (bj_set (e := (1 : Int)) (A := fun (most1 : Int) => ⟨[.ar, .da (enc a1), .da (.int a2), .da (.int most1), .un, .un], [.lv (a0.map enc), .dead, .dead]⟩) (dj_set j_lit rfl) (fun most1 =>
 bj_assoc (bj_g fun hg2 => bj_seqb (A := fun (s3 : Int) => ⟨[.ar, .un, .da (.int a2), .da (.int s3), .un, .un], [.lv (a0.map enc), .dead, .dead]⟩) (bj_for (a1 := ⟨[.ar, .da (enc a1), .da (.int a2), .da (.int most1), .un, .un], [.lv (a0.map enc), .dead, .dead]⟩) (e := PyData.int) (E := fun (s3 : Int) => ⟨[.ar, .un, .da (.int a2), .da (.int s3), .un, .un], [.lv (a0.map enc), .dead, .dead]⟩) (ls := []) (ys := (rngL 0 1 (a1.a).toNat)) (x0 := (most1 : Int)) (ji_rng1 (ja_cons (j_ixT (j_varD rfl) j_lit rfl rfl rfl) ja_nil) hg2) ⟨(.s (wk_da (.s (.s (.s (.s .nil)))))), rfl⟩ (fun _ => rfl) (fun _ => rfl) (fun _ => rfl) (fun s3 i4 => ⟨⟨[.ar, .un, .da (.int a2), .da (.int s3), .da (.int i4), .un], [.lv (a0.map enc), .dead, .dead]⟩, rfl, bj_sk (
 bj_g fun hg7 => bj_set (e := ((2 : Int) * s3)) (A := fun (most8 : Int) => ⟨[.ar, .un, .da (.int a2), .da (.int most8), .da (.int i4), .un], [.lv (a0.map enc), .dead, .dead]⟩) (dj_set (j_two j_lit (j_varD rfl) rfl rfl (rd_mulI hg7)) rfl) (fun most8 =>
 bj_endgo rfl ⟨(.s (.s (.s (.s (wk_da (.s .nil)))))), rfl⟩))⟩))
 (fun s3 => bj_assoc (bj_d (a1 := ⟨[.ar, .un, .da (.int a2), .da (.int s3), .un, .ow (.lv (([] : (List Int)).map enc))], [.lv (a0.map enc), .dead, .dead]⟩) (dj_set (j_lst ja_nil rfl) rfl) (bj_assoc (bj_g fun hg9 => bj_seqb (A := fun (s18 : (List Int) × (List Int)) => ⟨[.ar, .un, .un, .da (.int s3), .un, .ow (.lv (s18.1.map enc))], [.lv (s18.2.map enc), .dead, .dead]⟩) (bj_for (a1 := ⟨[.ar, .un, .da (.int a2), .da (.int s3), .un, .ow (.lv (([] : (List Int)).map enc))], [.lv (a0.map enc), .dead, .dead]⟩) (e := PyData.int) (E := fun (s18 : (List Int) × (List Int)) => ⟨[.ar, .un, .un, .da (.int s3), .un, .ow (.lv (s18.1.map enc))], [.lv (s18.2.map enc), .dead, .dead]⟩) (ls := []) (ys := (rngL 0 1 (a2).toNat)) (x0 := ((([] : (List Int)), a0) : (List Int) × (List Int))) (ji_rng1 (ja_cons (j_varD rfl) ja_nil) hg9) ⟨(.s (.s (wk_da (.s (.s (.s .nil)))))), rfl⟩ (fun _ => rfl) (fun _ => rfl) (fun _ => rfl) (fun s18 i19 => ⟨⟨[.ar, .un, .un, .da (.int s3), .da (.int i19), .ow (.lv (s18.1.map enc))], [.lv (s18.2.map enc), .dead, .dead]⟩, rfl, bj_sk (
 bj_bind fun r26 hr26 =>
 bj_bind fun r27 hr27 =>
 bj_bind fun r28 hr28 =>
 bj_bind fun x29 hx29 =>
 bj_g fun hg30 => bj_set (e := ((s18.1 ++ [x29]) : (List Int))) (A := fun (w31 : (List Int)) => ⟨[.ar, .un, .un, .da (.int s3), .da (.int i19), .ow (.lv (w31.map enc))], [.lv (r28.2.map enc), .dead, .dead]⟩) (dj_expr (j_appL (e := PyData.int) (xs := s18.1) (x := x29) rfl (j_ixL (e := PyData.int) (xs := ([(0 : Int), (s3 - (1 : Int)), r26.1, r27.1] : (List Int))) (j_lst (ja_cons j_lit (ja_cons (j_two (j_varD rfl) j_lit rfl rfl rd_sub) (ja_cons (j_callE (ja_cons (j_var rfl) (ja_cons (j_varD rfl) ja_nil)) ja_nil ⟨rfl, rfl⟩ rfl rfl (x__law_draw s18.2 s3 hr26) rfl (ok_sh _ r26.1) rfl rfl) (ja_cons (j_callE (ja_cons (j_var rfl) (ja_cons (j_varD rfl) ja_nil)) ja_nil ⟨rfl, rfl⟩ rfl rfl (x__law_draw r26.2 s3 hr27) rfl (ok_sh _ r27.1) rfl rfl) ja_nil)))) rfl) (j_callE (ja_cons (j_var rfl) (ja_cons j_lit ja_nil)) ja_nil ⟨rfl, rfl⟩ rfl rfl (x__law_draw r27.2 ((4 : Int)) hr28) rfl (ok_sh _ r28.1) rfl rfl) rfl rfl hx29) rfl rfl hg30 rfl)) (fun w31 =>
 bj_endgo rfl ⟨(.s (.s (.s (.s (wk_da (.s .nil)))))), rfl⟩))⟩))
 (fun s18 => bj_retq (j_var rfl) rfl rfl)))))))))

@[irreducible] noncomputable def p__law_size (a0 : (T3 Int Str Int)) : Option (Int) :=
 some ((((1 : Int) + a0.a) + (if (!decide (a0.b = ("none" : Str))) = true then 1 else 0 : Int)) + a0.c)
theorem x__law_size (a0 : (T3 Int Str Int)) {r : (Int)} (h : p__law_size a0 = some r) : outF m__law_size [.sh (enc a0)] [.dead] = some (.sh (.int r), [.dead]) := by
  unfold m__law_size
  refine bj_fall (m := p__law_size a0) (o := fun (r : (Int)) => .rt (.sh (.int r)) ([.dead])) (a := ⟨[.da (enc a0)], [.dead]⟩) ?_ rfl h rfl
  unfold p__law_size
  exact (
 bj_retq (j_two (j_two (j_two j_lit (j_ixT (j_varD rfl) j_lit rfl rfl rfl) rfl rfl rd_addI) (j_g1 (j_two (j_ixT (j_varD rfl) j_lit rfl rfl rfl) j_lit rfl rfl (rd_neT (τ := Str) (x := a0.b) (y := ("none" : Str)) (eq_okS _ _))) rfl o_intB) rfl rfl rd_addI) (j_ixT (j_varD rfl) j_lit rfl rfl rfl) rfl rfl rd_addI) rfl rfl)

@[irreducible] noncomputable def p__law_sending (a0 : (List Int)) (a1 : (T3 Int Str Int)) (a2 : Int) (a3 : Int) : Option ((List (T2 Int Int)) × (List Int)) :=
 (p__law_draw a0 ((4 : Int))).bind fun r1 =>
 (L2.atI ([(0 : Int), (-(100000000000000000000000000000 : Int)), (10000000000000000000000000000 : Int), (5 : Int)] : (List Int)) r1.1).bind fun x2 =>
 (p__law_draw r1.2 ((30 : Int))).bind fun r3 =>
 letP ((x2 - r3.1) : Int) fun w4 =>
 (p__law_text r3.2 a1 a3).bind fun r5 =>
 (loopM (fun (s18 : Int × (List (T2 Int Int)) × (List Int)) (i19 : Int) =>
 if s18.2.1.length < sizeLine then letP ((s18.2.1 ++ [(⟨s18.1, i19⟩ : (T2 Int Int))]) : (List (T2 Int Int))) fun w31 =>
 (p__law_draw s18.2.2 ((100 : Int))).bind fun r32 =>
 if cMul (9 : Int) a2 then (p__law_draw r32.2 (((9 : Int) * a2))).bind fun r34 =>
 (p__law_draw r34.2 ((5 : Int))).bind fun r35 =>
 (L2.atI ([(0 : Int), (0 : Int), (1 : Int), r32.1, r34.1] : (List Int)) r35.1).bind fun x36 =>
 (p__law_size a1).bind fun r37 =>
 if cMul r37 a2 then letP (((s18.1 + (r37 * a2)) + x36) : Int) fun tick39 =>
 some (tick39, w31, r35.2) else none else none else none) r5.1 ((w4, ([] : (List (T2 Int Int))), r5.2) : Int × (List (T2 Int Int)) × (List Int))).bind fun s18 =>
 some (s18.2.1, s18.2.2)
theorem x__law_sending (a0 : (List Int)) (a1 : (T3 Int Str Int)) (a2 : Int) (a3 : Int) {r : ((List (T2 Int Int)) × (List Int))} (h : p__law_sending a0 a1 a2 a3 = some r) : outF m__law_sending [.own 0, .sh (enc a1), .sh (.int a2), .sh (.int a3)] [.lv (a0.map enc), .dead, .dead, .dead] = some (.new (r.1.map enc), [.lv (r.2.map enc), .dead, .dead, .dead]) := by
  unfold m__law_sending
  refine bj_fall (m := p__law_sending a0 a1 a2 a3) (o := fun (r : ((List (T2 Int Int)) × (List Int))) => .rt (.new (r.1.map enc)) ([.lv (r.2.map enc), .dead, .dead, .dead])) (a := ⟨[.ar, .da (enc a1), .da (.int a2), .da (.int a3), .un, .un, .un, .un], [.lv (a0.map enc), .dead, .dead, .dead]⟩) ?_ rfl h rfl
  unfold p__law_sending
  exact (
 bj_assoc (bj_bind fun r1 hr1 =>
 bj_bind fun x2 hx2 =>
 bj_bind fun r3 hr3 =>
 bj_set (e := ((x2 - r3.1) : Int)) (A := fun (w4 : Int) => ⟨[.ar, .da (enc a1), .da (.int a2), .da (.int a3), .da (.int w4), .ow (.lv (([] : (List Int)).map enc)), .un, .un], [.lv (r3.2.map enc), .dead, .dead, .dead]⟩) (dj_par2 (ja_cons (j_two (j_ixL (e := PyData.int) (xs := ([(0 : Int), (-(100000000000000000000000000000 : Int)), (10000000000000000000000000000 : Int), (5 : Int)] : (List Int))) (j_lst (ja_cons j_lit (ja_cons (j_one (da_eq (d := .int ((10 : Int) ^ ((29 : Int)).toNat)) (d1 := .int (100000000000000000000000000000 : Int)) (j_two j_lit j_lit rfl rfl (rd_pow (show cPow (10 : Int) (29 : Int) by decide +kernel))) (congrArg PyData.int (show ((10 : Int) ^ ((29 : Int)).toNat) = (100000000000000000000000000000 : Int) by decide +kernel))) rfl rd1_neg) (ja_cons (da_eq (d := .int ((10 : Int) ^ ((28 : Int)).toNat)) (d1 := .int (10000000000000000000000000000 : Int)) (j_two j_lit j_lit rfl rfl (rd_pow (show cPow (10 : Int) (28 : Int) by decide +kernel))) (congrArg PyData.int (show ((10 : Int) ^ ((28 : Int)).toNat) = (10000000000000000000000000000 : Int) by decide +kernel))) (ja_cons j_lit ja_nil)))) rfl) (j_callE (ja_cons (j_var rfl) (ja_cons j_lit ja_nil)) ja_nil ⟨rfl, rfl⟩ rfl rfl (x__law_draw a0 ((4 : Int)) hr1) rfl (ok_sh _ r1.1) rfl rfl) rfl rfl hx2) (j_callE (ja_cons (j_var rfl) (ja_cons j_lit ja_nil)) ja_nil ⟨rfl, rfl⟩ rfl rfl (x__law_draw r1.2 ((30 : Int)) hr3) rfl (ok_sh _ r3.1) rfl rfl) rfl rfl rd_sub) (ja_cons (j_lst ja_nil rfl) ja_nil)) rfl rfl) (fun w4 =>
 bj_assoc (bj_bind fun r5 hr5 =>
 bj_seqb (A := fun (s18 : Int × (List (T2 Int Int)) × (List Int)) => ⟨[.ar, .da (enc a1), .da (.int a2), .un, .da (.int s18.1), .ow (.lv (s18.2.1.map enc)), .un, .un], [.lv (s18.2.2.map enc), .dead, .dead, .dead]⟩) (bj_for (a1 := ⟨[.ar, .da (enc a1), .da (.int a2), .da (.int a3), .da (.int w4), .ow (.lv (([] : (List Int)).map enc)), .un, .un], [.lv (r5.2.map enc), .dead, .dead, .dead]⟩) (e := PyData.int) (E := fun (s18 : Int × (List (T2 Int Int)) × (List Int)) => ⟨[.ar, .da (enc a1), .da (.int a2), .un, .da (.int s18.1), .ow (.lv (s18.2.1.map enc)), .un, .un], [.lv (s18.2.2.map enc), .dead, .dead, .dead]⟩) (ls := []) (ys := r5.1) (x0 := ((w4, ([] : (List (T2 Int Int))), r5.2) : Int × (List (T2 Int Int)) × (List Int))) (ji_seq (j_callE (ja_cons (j_var rfl) (ja_cons (j_varD rfl) (ja_cons (j_varD rfl) ja_nil))) ja_nil ⟨rfl, rfl⟩ rfl rfl (x__law_text r3.2 a1 a3 hr5) rfl (ok_new _ r5.1) rfl rfl) rfl) ⟨(.s (.s (.s (wk_da (.s (.s (.s (.s .nil)))))))), rfl⟩ (fun _ => rfl) (fun _ => rfl) (fun _ => rfl) (fun s18 i19 => ⟨⟨[.ar, .da (enc a1), .da (.int a2), .un, .da (.int s18.1), .ow (.lv (s18.2.1.map enc)), .da (.int i19), .un], [.lv (s18.2.2.map enc), .dead, .dead, .dead]⟩, rfl, bj_sk (
 bj_assoc (bj_g fun hg30 => bj_set (e := ((s18.2.1 ++ [(⟨s18.1, i19⟩ : (T2 Int Int))]) : (List (T2 Int Int)))) (A := fun (w31 : (List (T2 Int Int))) => ⟨[.ar, .da (enc a1), .da (.int a2), .un, .da (.int s18.1), .ow (.lv (w31.map enc)), .da (.int i19), .un], [.lv (s18.2.2.map enc), .dead, .dead, .dead]⟩) (dj_expr (j_appL (e := (enc : (T2 Int Int) → D)) (xs := s18.2.1) (x := (⟨s18.1, i19⟩ : (T2 Int Int))) rfl (j_tup (ja_cons (j_varD rfl) (ja_cons (j_varD rfl) ja_nil)) rfl) rfl rfl hg30 rfl)) (fun w31 =>
 bj_assoc (bj_bind fun r32 hr32 =>
 bj_g fun hg33 => bj_bind fun r34 hr34 =>
 bj_bind fun r35 hr35 =>
 bj_bind fun x36 hx36 =>
 bj_d (a1 := ⟨[.ar, .da (enc a1), .da (.int a2), .un, .da (.int s18.1), .ow (.lv (w31.map enc)), .da (.int i19), .da (.int x36)], [.lv (r35.2.map enc), .dead, .dead, .dead]⟩) (dj_set (j_ixL (e := PyData.int) (xs := ([(0 : Int), (0 : Int), (1 : Int), r32.1, r34.1] : (List Int))) (j_lst (ja_cons j_lit (ja_cons j_lit (ja_cons j_lit (ja_cons (j_callE (ja_cons (j_var rfl) (ja_cons j_lit ja_nil)) ja_nil ⟨rfl, rfl⟩ rfl rfl (x__law_draw s18.2.2 ((100 : Int)) hr32) rfl (ok_sh _ r32.1) rfl rfl) (ja_cons (j_callE (ja_cons (j_var rfl) (ja_cons (j_two j_lit (j_varD rfl) rfl rfl (rd_mulI hg33)) ja_nil)) ja_nil ⟨rfl, rfl⟩ rfl rfl (x__law_draw r32.2 (((9 : Int) * a2)) hr34) rfl (ok_sh _ r34.1) rfl rfl) ja_nil))))) rfl) (j_callE (ja_cons (j_var rfl) (ja_cons j_lit ja_nil)) ja_nil ⟨rfl, rfl⟩ rfl rfl (x__law_draw r34.2 ((5 : Int)) hr35) rfl (ok_sh _ r35.1) rfl rfl) rfl rfl hx36) rfl) (bj_bind fun r37 hr37 =>
 bj_g fun hg38 => bj_set (e := ((s18.1 + (r37 * a2)) + x36)) (A := fun (tick39 : Int) => ⟨[.ar, .da (enc a1), .da (.int a2), .un, .da (.int tick39), .ow (.lv (w31.map enc)), .da (.int i19), .da (.int x36)], [.lv (r35.2.map enc), .dead, .dead, .dead]⟩) (dj_set (j_two (j_two (j_varD rfl) (j_two (j_callE (ja_cons (j_varD rfl) ja_nil) ja_nil ⟨rfl, rfl⟩ rfl rfl (x__law_size a1 hr37) rfl (ok_sh _ r37) rfl rfl) (j_varD rfl) rfl rfl (rd_mulI hg38)) rfl rfl rd_addI) (j_varD rfl) rfl rfl rd_addI) rfl) (fun tick39 =>
 bj_endgo rfl ⟨(.s (.s (.s (.s (.s (.s (wk_da (wk_da .nil)))))))), rfl⟩))))))⟩))
 (fun s18 => bj_retq (j_var rfl) rfl rfl)))))

@[irreducible] noncomputable def p_format_sending (a0 : (List (T2 Int Int))) : Option (Str) :=
 (compB (fun (y1 : (T2 Int Int)) => (if (y1.a).natAbs.log2 < 1920 then (if (y1.b).natAbs.log2 < 1920 then (if ((Str.empty ++ (Str.ofString (toString y1.a)))).length ≤ sizeLine then (if (((Str.empty ++ (Str.ofString (toString y1.a))) ++ (":" : Str))).length ≤ sizeLine then (if ((((Str.empty ++ (Str.ofString (toString y1.a))) ++ (":" : Str)) ++ (Str.ofString (toString y1.b)))).length ≤ sizeLine then (some [(((Str.empty ++ (Str.ofString (toString y1.a))) ++ (":" : Str)) ++ (Str.ofString (toString y1.b)))]) else none) else none) else none) else none) else none)) a0).bind fun zs8 =>
 if zs8.length ≤ sizeLine then if ((zs8).map (·.length)).sum + (zs8).length * ((" " : Str)).length ≤ 16777216 then some (Txt.join (" " : Str) zs8) else none else none
theorem x_format_sending (a0 : (List (T2 Int Int))) {r : (Str)} (h : p_format_sending a0 = some r) : outF m_format_sending [.sh (.list (a0.map enc))] [.dead] = some (.sh (.str r), [.dead]) := by
  unfold m_format_sending
  refine bj_fall (m := p_format_sending a0) (o := fun (r : (Str)) => .rt (.sh (.str r)) ([.dead])) (a := ⟨[.da (.list (a0.map enc)), .un, .un], [.dead]⟩) ?_ rfl h rfl
  unfold p_format_sending
  exact (
 bj_bind fun zs8 hzs8 =>
 bj_g fun hg9 => bj_g fun hg16 => bj_retq (j_joinT (ys := zs8) j_lit (j_compE (e := (enc : (T2 Int Int) → D)) (e' := PyData.str) (ls := []) (step := fun y1 => (if (y1.a).natAbs.log2 < 1920 then (if (y1.b).natAbs.log2 < 1920 then (if ((Str.empty ++ (Str.ofString (toString y1.a)))).length ≤ sizeLine then (if (((Str.empty ++ (Str.ofString (toString y1.a))) ++ (":" : Str))).length ≤ sizeLine then (if ((((Str.empty ++ (Str.ofString (toString y1.a))) ++ (":" : Str)) ++ (Str.ofString (toString y1.b)))).length ≤ sizeLine then (some [(((Str.empty ++ (Str.ofString (toString y1.a))) ++ (":" : Str)) ++ (Str.ofString (toString y1.b)))]) else none) else none) else none) else none) else none)) (zs := zs8) (ji_seq (j_varD rfl) rfl) rfl rfl rfl hzs8 hg9 (fun _ y1 _ h7 => (match gE h7 with | ⟨hg2, e11⟩ => match gE e11 with | ⟨hg3, e12⟩ => match gE e12 with | ⟨hg4, e13⟩ => match gE e13 with | ⟨hg5, e14⟩ => match gE e14 with | ⟨hg6, e15⟩ => match sE e15 with | rfl => ⟨⟨[.da (.list (a0.map enc)), .da (.int y1.a), .da (.int y1.b)], [.dead]⟩, rfl, ct_one jt_yes (j_js (j_jsCons (j_fmtI (j_varD rfl) hg2) hg4 (j_jsCons j_lit hg5 (j_jsCons (j_fmtI (j_varD rfl) hg3) hg6 j_jsNil)))) rfl⟩)) rfl) rfl hg16) rfl rfl)

@[irreducible] noncomputable def p_shape_fault (a0 : (T3 Int Str Int)) : Option (D) :=
 if (!decide ((3 : Int) = (3 : Int))) = true then some (enc (⟨()⟩ : (T1 Unit)) : D)
 else (p_is_integer a0.a).bind fun r1 =>
 if ((!r1) || (!((decide ((1 : Int) ≤ a0.a)) && (decide (a0.a ≤ (9 : Int)))))) = true then some (enc (⟨(0 : Int)⟩ : (T1 Int)) : D)
 else if (!decide (a0.b ∈ ([(⟨("none" : Str), ("even" : Str), ("odd" : Str)⟩ : (T3 Str Str Str)).a, (⟨("none" : Str), ("even" : Str), ("odd" : Str)⟩ : (T3 Str Str Str)).b, (⟨("none" : Str), ("even" : Str), ("odd" : Str)⟩ : (T3 Str Str Str)).c] : List Str))) = true then some (enc (⟨(1 : Int)⟩ : (T1 Int)) : D)
 else (p_is_integer a0.c).bind fun r2 =>
 if ((!r2) || (!((decide ((1 : Int) ≤ a0.c)) && (decide (a0.c ≤ (2 : Int)))))) = true then some (enc (⟨(2 : Int)⟩ : (T1 Int)) : D)
 else some (PyData.tuple [])
theorem x_shape_fault (a0 : (T3 Int Str Int)) {r : (D)} (h : p_shape_fault a0 = some r) : outF m_shape_fault [.sh (enc a0)] [.dead] = some (.sh (r), [.dead]) := by
  unfold m_shape_fault
  refine bj_fall (m := p_shape_fault a0) (o := fun (r : (D)) => .rt (.sh (r)) ([.dead])) (a := ⟨[.da (enc a0)], [.dead]⟩) ?_ rfl h rfl
  unfold p_shape_fault
  exact (
 bj_assoc (bj_ifr (a1 := ⟨[.da (enc a0)], [.dead]⟩) (jt_or (b := (!decide ((3 : Int) = (3 : Int)))) (a2 := ⟨[.da (enc a0)], [.dead]⟩) (jt_eq (b1 := false) (jt_not (jt_truB (j_one (j_varD rfl) rfl rd1_isi) rfl)) rfl) (fun _ => (jt_bool (j_two (j_g1 (j_varD rfl) rfl o_lenT) j_lit rfl rfl (rd_neT (τ := Int) (x := (3 : Int)) (y := (3 : Int)) (eq_okI _ _))))) (fun h => by cases h)) (fun _ => bj_retq (j_tup (ja_cons j_lit ja_nil) rfl) rfl rfl)
 (fun _ => bj_skip (bj_assoc (bj_bind fun r1 hr1 =>
 bj_ifr (a1 := ⟨[.da (enc a0)], [.dead]⟩) (jt_or' (jt_not (jt_truB (j_callE (ja_cons (j_ixT (j_varD rfl) j_lit rfl rfl rfl) ja_nil) ja_nil ⟨rfl, rfl⟩ rfl rfl (x_is_integer a0.a hr1) rfl (ok_sh _ r1) rfl rfl) rfl)) (fun _ => (jt_not (jt_bool (j_chain j_lit (j_ixT (j_varD rfl) j_lit rfl rfl rfl) rfl rfl rd_le (fun _ => j_lit) rfl rd_le))))) (fun _ => bj_retq (j_tup (ja_cons j_lit ja_nil) rfl) rfl rfl)
 (fun _ => bj_skip (bj_assoc (bj_ifr (a1 := ⟨[.da (enc a0)], [.dead]⟩) (jt_or (b := (!decide (a0.b ∈ ([(⟨("none" : Str), ("even" : Str), ("odd" : Str)⟩ : (T3 Str Str Str)).a, (⟨("none" : Str), ("even" : Str), ("odd" : Str)⟩ : (T3 Str Str Str)).b, (⟨("none" : Str), ("even" : Str), ("odd" : Str)⟩ : (T3 Str Str Str)).c] : List Str)))) (a2 := ⟨[.da (enc a0)], [.dead]⟩) (jt_eq (b1 := false) (jt_not (jt_truB (j_one (j_ixT (j_varD rfl) j_lit rfl rfl rfl) rfl rd1_isi) rfl)) rfl) (fun _ => (jt_bool (j_two (j_ixT (j_varD rfl) j_lit rfl rfl rfl) j_lit rfl rfl (rd_notInT (τ := Str) (x := a0.b) (xs := ([(⟨("none" : Str), ("even" : Str), ("odd" : Str)⟩ : (T3 Str Str Str)).a, (⟨("none" : Str), ("even" : Str), ("odd" : Str)⟩ : (T3 Str Str Str)).b, (⟨("none" : Str), ("even" : Str), ("odd" : Str)⟩ : (T3 Str Str Str)).c] : List Str)))))) (fun h => by cases h)) (fun _ => bj_retq (j_tup (ja_cons j_lit ja_nil) rfl) rfl rfl)
 (fun _ => bj_skip (bj_assoc (bj_bind fun r2 hr2 =>
 bj_ifr (a1 := ⟨[.da (enc a0)], [.dead]⟩) (jt_or' (jt_not (jt_truB (j_callE (ja_cons (j_ixT (j_varD rfl) j_lit rfl rfl rfl) ja_nil) ja_nil ⟨rfl, rfl⟩ rfl rfl (x_is_integer a0.c hr2) rfl (ok_sh _ r2) rfl rfl) rfl)) (fun _ => (jt_not (jt_bool (j_chain j_lit (j_ixT (j_varD rfl) j_lit rfl rfl rfl) rfl rfl rd_le (fun _ => j_lit) rfl rd_le))))) (fun _ => bj_retq (j_tup (ja_cons j_lit ja_nil) rfl) rfl rfl)
 (fun _ => bj_skip (bj_retq (j_tup ja_nil rfl) rfl rfl)))))))))))))

@[irreducible] noncomputable def p_require_shape (a0 : (T3 Int Str Int)) : Option (Unit) :=
 (p_shape_fault a0).bind fun r1 =>
 if eqOk r1 (PyData.tuple []) = true then (if (!PyData.eqv r1 (PyData.tuple [])) = true then none else some () : Option (Unit)).bind fun j3 =>
 some () else none
theorem x_require_shape (a0 : (T3 Int Str Int)) {r : (Unit)} (h : p_require_shape a0 = some r) : outF m_require_shape [.sh (enc a0)] [.dead] = some (.sh (.none), [.dead]) := by
  unfold m_require_shape
  refine bj_fall (m := p_require_shape a0) (o := fun (r : (Unit)) => .rt (.sh (.none)) ([.dead])) (a := ⟨[.da (enc a0), .un], [.dead]⟩) ?_ rfl h rfl
  unfold p_require_shape
  exact (
 bj_assoc (bj_bind fun r1 hr1 =>
 bj_d (a1 := ⟨[.da (enc a0), .da (r1)], [.dead]⟩) (dj_set (j_callE (ja_cons (j_varD rfl) ja_nil) ja_nil ⟨rfl, rfl⟩ rfl rfl (x_shape_fault a0 hr1) rfl rfl rfl rfl) rfl) (bj_g fun hg2 => bj_seqb (A := fun (j3 : Unit) => ⟨[.da (enc a0), .da (r1)], [.dead]⟩) (bj_if (a1 := ⟨[.da (enc a0), .da (r1)], [.dead]⟩) (jt_bool (j_two (j_varD rfl) (j_tup ja_nil rfl) rfl rfl (rd_neD (x := r1) (y := (PyData.tuple [])) hg2))) (fun _ => bj_sk (bj_none))
 (fun _ => bj_endnx rfl ⟨(.s (.s .nil)), rfl⟩))
 (fun j3 => bj_retN rfl))))

@[irreducible] noncomputable def p_require_length (a0 : Int) : Option (Unit) :=
 (p_is_at_least a0 ((1 : Int))).bind fun r1 =>
 (if (!r1) = true then none else some () : Option (Unit)).bind fun j2 =>
 some ()
theorem x_require_length (a0 : Int) {r : (Unit)} (h : p_require_length a0 = some r) : outF m_require_length [.sh (.int a0)] [.dead] = some (.sh (.none), [.dead]) := by
  unfold m_require_length
  refine bj_fall (m := p_require_length a0) (o := fun (r : (Unit)) => .rt (.sh (.none)) ([.dead])) (a := ⟨[.da (.int a0)], [.dead]⟩) ?_ rfl h rfl
  unfold p_require_length
  exact (
 bj_bind fun r1 hr1 =>
 bj_seqb (A := fun (j2 : Unit) => ⟨[.da (.int a0)], [.dead]⟩) (bj_if (a1 := ⟨[.da (.int a0)], [.dead]⟩) (jt_not (jt_truB (j_callE (ja_cons (j_varD rfl) (ja_cons j_lit ja_nil)) ja_nil ⟨rfl, rfl⟩ rfl rfl (x_is_at_least a0 ((1 : Int)) hr1) rfl (ok_sh _ r1) rfl rfl) rfl)) (fun _ => bj_sk (bj_none))
 (fun _ => bj_endnx rfl ⟨(.s .nil), rfl⟩))
 (fun j2 => bj_retN rfl))

@[irreducible] noncomputable def p_is_integer_1 (a0 : (Option Int)) : Option (Bool) :=
 some ((isD .int (enc a0 : D)) && (!(isD .bool (enc a0 : D))))
theorem x_is_integer_1 (a0 : (Option Int)) {r : (Bool)} (h : p_is_integer_1 a0 = some r) : outF m_is_integer [.sh (enc a0)] [.dead] = some (.sh (.bool r), [.dead]) := by
  unfold m_is_integer
  refine bj_fall (m := p_is_integer_1 a0) (o := fun (r : (Bool)) => .rt (.sh (.bool r)) ([.dead])) (a := ⟨[.da (enc a0)], [.dead]⟩) ?_ rfl h rfl
  unfold p_is_integer_1
  exact (
 bj_retq (j_and' (j_one (j_varD rfl) rfl rd1_isi) (fun _ => (j_one (j_one (j_varD rfl) rfl rd1_isi) rfl rd_notB))) rfl rfl)

@[irreducible] noncomputable def p_fits_shape (a0 : (T3 Int Str Int)) (a1 : (Option Int)) : Option (Bool) :=
 (p_is_integer_1 a1).bind fun r1 =>
 (if r1 = true then ((a1).bind fun y2 => (if cShl (1 : Int) a0.a then (some ((decide ((0 : Int) ≤ y2)) && (decide (y2 < ((1 : Int) * 2 ^ (a0.a).toNat))))) else none)) else (some false)).bind fun c4 =>
 some c4
theorem x_fits_shape (a0 : (T3 Int Str Int)) (a1 : (Option Int)) {r : (Bool)} (h : p_fits_shape a0 a1 = some r) : outF m_fits_shape [.sh (enc a0), .sh (enc a1)] [.dead, .dead] = some (.sh (.bool r), [.dead, .dead]) := by
  unfold m_fits_shape
  refine bj_fall (m := p_fits_shape a0 a1) (o := fun (r : (Bool)) => .rt (.sh (.bool r)) ([.dead, .dead])) (a := ⟨[.da (enc a0), .da (enc a1)], [.dead, .dead]⟩) ?_ rfl h rfl
  unfold p_fits_shape
  exact (
 bj_bind fun r1 hr1 =>
 bj_bind fun c4 hc4 =>
 bj_retq (j_and (b := c4) (a2 := ⟨[.da (enc a0), .da (enc a1)], [.dead, .dead]⟩) (j_callE (ja_cons (j_varD rfl) ja_nil) ja_nil ⟨rfl, rfl⟩ rfl rfl (x_is_integer_1 a1 hr1) rfl (ok_sh _ r1) rfl rfl) (fun b5 => (match bE (ifT b5 hc4) with | ⟨y2, hy2, e6⟩ => match gE e6 with | ⟨hg3, e7⟩ => match sE e7 with | rfl => (j_chain j_lit (j_eq (j_varD rfl) (congrArg (fun (z : (Option Int)) => RV.da (enc z)) hy2)) rfl rfl rd_le (fun _ => (j_two j_lit (j_ixT (j_varD rfl) j_lit rfl rfl rfl) rfl rfl (rd_shl hg3))) rfl rd_lt))) (fun b5 => match sE (ifF b5 hc4) with | rfl => ⟨rfl, rfl⟩)) rfl rfl)

@[irreducible] noncomputable def p_sending_item (a0 : (T3 Int Str Int)) (a1 : Str) : Option ((Option (T2 Int (Option Int)))) :=
 if (((":" : Str)).length == 0) = false ∧ (a1).length + 2 ≤ sizeLine then letP ((Txt.split a1 (":" : Str)) : (List Str)) fun parts2 =>
 if (!decide ((parts2.length : Int) = (2 : Int))) = true then some (none : (Option (T2 Int (Option Int))))
 else (L2.atI parts2 (0 : Int)).bind fun x3 =>
 (p_integer_of x3).bind fun r4 =>
 (L2.atI parts2 (1 : Int)).bind fun x5 =>
 (p_integer_of x5).bind fun r6 =>
 (if (r4.isNone) = true then (some true) else ((p_fits_shape a0 r6).bind fun r7 => (some (!r7)))).bind fun c8 =>
 if c8 = true then some (none : (Option (T2 Int (Option Int))))
 else (r4).bind fun tick11 =>
 some (some (⟨tick11, r6⟩ : (T2 Int (Option Int)))) else none
theorem x_sending_item (a0 : (T3 Int Str Int)) (a1 : Str) {r : ((Option (T2 Int (Option Int))))} (h : p_sending_item a0 a1 = some r) : outF m_sending_item [.sh (enc a0), .sh (.str a1)] [.dead, .dead] = some (.sh (enc r), [.dead, .dead]) := by
  unfold m_sending_item
  refine bj_fall (m := p_sending_item a0 a1) (o := fun (r : ((Option (T2 Int (Option Int))))) => .rt (.sh (enc r)) ([.dead, .dead])) (a := ⟨[.da (enc a0), .da (.str a1), .un, .un, .un], [.dead, .dead]⟩) ?_ rfl h rfl
  unfold p_sending_item
  exact (
 bj_assoc (bj_g fun hg1 => bj_set (e := (Txt.split a1 (":" : Str))) (A := fun (parts2 : (List Str)) => ⟨[.da (enc a0), .da (.str a1), .ow (.lv (parts2.map enc)), .un, .un], [.dead, .dead]⟩) (dj_set (j_split (j_varD rfl) j_lit rfl hg1) rfl) (fun parts2 =>
 bj_assoc (bj_ifr (a1 := ⟨[.da (enc a0), .da (.str a1), .ow (.lv (parts2.map enc)), .un, .un], [.dead, .dead]⟩) (jt_bool (j_two (j_g1 (j_var rfl) rfl (o_lenM (e := PyData.str) (xs := parts2))) j_lit rfl rfl (rd_neT (τ := Int) (x := (parts2.length : Int)) (y := (2 : Int)) (eq_okI _ _)))) (fun _ => bj_retq j_lit rfl rfl)
 (fun _ => bj_skip (bj_assoc (bj_bind fun x3 hx3 =>
 bj_bind fun r4 hr4 =>
 bj_bind fun x5 hx5 =>
 bj_bind fun r6 hr6 =>
 bj_d (a1 := ⟨[.da (enc a0), .da (.str a1), .ow (.lv (parts2.map enc)), .da (enc r4), .da (enc r6)], [.dead, .dead]⟩) (dj_par2 (ja_cons (j_callE (ja_cons (j_ixL (e := PyData.str) (xs := parts2) (j_var rfl) j_lit rfl rfl hx3) ja_nil) ja_nil ⟨rfl, rfl⟩ rfl rfl (x_integer_of x3 hr4) rfl (ok_sh _ r4) rfl rfl) (ja_cons (j_callE (ja_cons (j_ixL (e := PyData.str) (xs := parts2) (j_var rfl) j_lit rfl rfl hx5) ja_nil) ja_nil ⟨rfl, rfl⟩ rfl rfl (x_integer_of x5 hr6) rfl (ok_sh _ r6) rfl rfl) ja_nil)) rfl rfl) (bj_assoc (bj_bind fun c8 hc8 =>
 bj_ifr (a1 := ⟨[.da (enc a0), .da (.str a1), .ow (.lv (parts2.map enc)), .da (enc r4), .da (enc r6)], [.dead, .dead]⟩) (jt_or (b := c8) (a2 := ⟨[.da (enc a0), .da (.str a1), .ow (.lv (parts2.map enc)), .da (enc r4), .da (enc r6)], [.dead, .dead]⟩) (jt_bool (j_one (j_varD rfl) rfl rd_isN)) (fun b9 => (match bE (ifF b9 hc8) with | ⟨r7, hr7, e10⟩ => match sE e10 with | rfl => (jt_not (jt_truB (j_callE (ja_cons (j_varD rfl) (ja_cons (j_varD rfl) ja_nil)) ja_nil ⟨rfl, rfl⟩ rfl rfl (x_fits_shape a0 r6 hr7) rfl (ok_sh _ r7) rfl rfl) rfl)))) (fun b9 => match sE (ifT b9 hc8) with | rfl => ⟨rfl, rfl⟩)) (fun _ => bj_retq j_lit rfl rfl)
 (fun _ => bj_bind fun tick11 htick11 => bj_rw (A := fun (z12 : (Option Int)) => ⟨[.da (enc a0), .da (.str a1), .ow (.lv (parts2.map enc)), .da (enc z12), .da (enc r6)], [.dead, .dead]⟩) htick11 (bj_skip (bj_retq (j_tup (ja_cons (j_varD rfl) (ja_cons (j_varD rfl) ja_nil)) rfl) rfl rfl))))))))))))

@[irreducible] noncomputable def p_frame_size (a0 : (T3 Int Str Int)) : Option (Int) :=
 some ((((1 : Int) + a0.a) + (if (!decide (a0.b = ("none" : Str))) = true then 1 else 0 : Int)) + a0.c)
theorem x_frame_size (a0 : (T3 Int Str Int)) {r : (Int)} (h : p_frame_size a0 = some r) : outF m_frame_size [.sh (enc a0)] [.dead] = some (.sh (.int r), [.dead]) := by
  unfold m_frame_size
  refine bj_fall (m := p_frame_size a0) (o := fun (r : (Int)) => .rt (.sh (.int r)) ([.dead])) (a := ⟨[.da (enc a0)], [.dead]⟩) ?_ rfl h rfl
  unfold p_frame_size
  exact (
 bj_retq (j_two (j_two (j_two j_lit (j_ixT (j_varD rfl) j_lit rfl rfl rfl) rfl rfl rd_addI) (j_g1 (j_two (j_ixT (j_varD rfl) j_lit rfl rfl rfl) j_lit rfl rfl (rd_neT (τ := Str) (x := a0.b) (y := ("none" : Str)) (eq_okS _ _))) rfl o_intB) rfl rfl rd_addI) (j_ixT (j_varD rfl) j_lit rfl rfl rfl) rfl rfl rd_addI) rfl rfl)

@[irreducible] noncomputable def p_parse_sending (a0 : (T3 Int Str Int)) (a1 : Int) (a2 : Str) : Option ((List (T2 Int (Option Int)))) :=
 (p_require_shape a0).bind fun r1 =>
 (p_require_length a1).bind fun r2 =>
 (p_require_string a2).bind fun r3 =>
 (p_words_of a2).bind fun r4 =>
 (loopM (fun (s5 : (List (T2 Int (Option Int)))) (i6 : (T2 Int Str)) =>
 (p_sending_item a0 i6.b).bind fun r24 =>
 (if ((r24.isNone) || (decide ((60 : Int) ≤ i6.a))) = true then none else (r24).bind fun item28 =>
 some item28 : Option ((T2 Int (Option Int)))).bind fun j27 =>
 (if (!PyData.eqv (enc s5 : D) (enc ([] : (List Int)) : D)) = true then ((L2.atI s5 (-(1 : Int))).bind fun x30 => ((p_frame_size a0).bind fun r31 => (if cMul r31 a1 then (some (decide (j27.a < (x30.a + (r31 * a1))))) else none))) else (some false)).bind fun c33 =>
 (if c33 = true then none else some () : Option (Unit)).bind fun j38 =>
 if s5.length < sizeLine then letP ((s5 ++ [j27]) : (List (T2 Int (Option Int)))) fun w40 =>
 some w40 else none) (enumL ((0 : Nat) : Int) r4) (([] : (List (T2 Int (Option Int)))) : (List (T2 Int (Option Int))))).bind fun s5 =>
 some s5
theorem x_parse_sending (a0 : (T3 Int Str Int)) (a1 : Int) (a2 : Str) {r : ((List (T2 Int (Option Int))))} (h : p_parse_sending a0 a1 a2 = some r) : outF m_parse_sending [.sh (enc a0), .sh (.int a1), .sh (.str a2)] [.dead, .dead, .dead] = some (.new (r.map enc), [.dead, .dead, .dead]) := by
  unfold m_parse_sending
  refine bj_fall (m := p_parse_sending a0 a1 a2) (o := fun (r : ((List (T2 Int (Option Int))))) => .rt (.new (r.map enc)) ([.dead, .dead, .dead])) (a := ⟨[.da (enc a0), .da (.int a1), .da (.str a2), .un, .un, .un, .un], [.dead, .dead, .dead]⟩) ?_ rfl h rfl
  unfold p_parse_sending
  exact (
 bj_assoc (bj_bind fun r1 hr1 =>
 bj_d (a1 := ⟨[.da (enc a0), .da (.int a1), .da (.str a2), .un, .un, .un, .un], [.dead, .dead, .dead]⟩) (dj_expr (j_callE (ja_cons (j_varD rfl) ja_nil) ja_nil ⟨rfl, rfl⟩ rfl rfl (x_require_shape a0 hr1) rfl (ok_sh _ r1) rfl rfl)) (bj_assoc (bj_bind fun r2 hr2 =>
 bj_d (a1 := ⟨[.da (enc a0), .da (.int a1), .da (.str a2), .un, .un, .un, .un], [.dead, .dead, .dead]⟩) (dj_expr (j_callE (ja_cons (j_varD rfl) ja_nil) ja_nil ⟨rfl, rfl⟩ rfl rfl (x_require_length a1 hr2) rfl (ok_sh _ r2) rfl rfl)) (bj_assoc (bj_bind fun r3 hr3 =>
 bj_d (a1 := ⟨[.da (enc a0), .da (.int a1), .da (.str a2), .un, .un, .un, .un], [.dead, .dead, .dead]⟩) (dj_expr (j_callE (ja_cons (j_varD rfl) ja_nil) ja_nil ⟨rfl, rfl⟩ rfl rfl (x_require_string a2 hr3) rfl (ok_sh _ r3) rfl rfl)) (bj_assoc (bj_d (a1 := ⟨[.da (enc a0), .da (.int a1), .da (.str a2), .ow (.lv (([] : (List Int)).map enc)), .un, .un, .un], [.dead, .dead, .dead]⟩) (dj_set (j_lst ja_nil rfl) rfl) (bj_assoc (bj_bind fun r4 hr4 =>
 bj_seqb (A := fun (s5 : (List (T2 Int (Option Int)))) => ⟨[.da (enc a0), .da (.int a1), .un, .ow (.lv (s5.map enc)), .un, .un, .un], [.dead, .dead, .dead]⟩) (bj_for (a1 := ⟨[.da (enc a0), .da (.int a1), .da (.str a2), .ow (.lv (([] : (List Int)).map enc)), .un, .un, .un], [.dead, .dead, .dead]⟩) (e := (enc : (T2 Int Str) → D)) (E := fun (s5 : (List (T2 Int (Option Int)))) => ⟨[.da (enc a0), .da (.int a1), .un, .ow (.lv (s5.map enc)), .un, .un, .un], [.dead, .dead, .dead]⟩) (ls := []) (ys := (enumL ((0 : Nat) : Int) r4)) (x0 := (([] : (List (T2 Int (Option Int)))) : (List (T2 Int (Option Int))))) (ji_eq (ji_enum (j_callE (ja_cons (j_varD rfl) ja_nil) ja_nil ⟨rfl, rfl⟩ rfl rfl (x_words_of a2 hr4) rfl (ok_new _ r4) rfl rfl) rfl) (enum_map 0 r4)) ⟨(.s (.s (wk_da (.s (.s (.s (.s .nil))))))), rfl⟩ (fun _ => rfl) (fun _ => rfl) (fun _ => rfl) (fun s5 i6 => ⟨⟨[.da (enc a0), .da (.int a1), .un, .ow (.lv (s5.map enc)), .da (.int i6.a), .da (.str i6.b), .un], [.dead, .dead, .dead]⟩, rfl, bj_sk (
 bj_assoc (bj_bind fun r24 hr24 =>
 bj_d (a1 := ⟨[.da (enc a0), .da (.int a1), .un, .ow (.lv (s5.map enc)), .da (.int i6.a), .da (.str i6.b), .da (enc r24)], [.dead, .dead, .dead]⟩) (dj_set (j_callE (ja_cons (j_varD rfl) (ja_cons (j_varD rfl) ja_nil)) ja_nil ⟨rfl, rfl⟩ rfl rfl (x_sending_item a0 i6.b hr24) rfl (ok_sh _ r24) rfl rfl) rfl) (bj_assoc (bj_seqb (A := fun (j27 : (T2 Int (Option Int))) => ⟨[.da (enc a0), .da (.int a1), .un, .ow (.lv (s5.map enc)), .da (.int i6.a), .da (.str i6.b), .da (enc j27)], [.dead, .dead, .dead]⟩) (bj_if (a1 := ⟨[.da (enc a0), .da (.int a1), .un, .ow (.lv (s5.map enc)), .da (.int i6.a), .da (.str i6.b), .da (enc r24)], [.dead, .dead, .dead]⟩) (jt_or' (jt_bool (j_one (j_varD rfl) rfl rd_isN)) (fun _ => (jt_bool (j_two (j_varD rfl) j_lit rfl rfl rd_ge)))) (fun _ => bj_sk (bj_none))
 (fun _ => bj_bind fun item28 hitem28 => bj_rw (A := fun (z29 : (Option (T2 Int (Option Int)))) => ⟨[.da (enc a0), .da (.int a1), .un, .ow (.lv (s5.map enc)), .da (.int i6.a), .da (.str i6.b), .da (enc z29)], [.dead, .dead, .dead]⟩) hitem28 (bj_endnx rfl ⟨(.s (.s (.s (.s (.s (.s (.s .nil))))))), rfl⟩)))
 (fun j27 => bj_assoc (bj_bind fun c33 hc33 =>
 bj_seqb (A := fun (j38 : Unit) => ⟨[.da (enc a0), .da (.int a1), .un, .ow (.lv (s5.map enc)), .da (.int i6.a), .da (.str i6.b), .da (enc j27)], [.dead, .dead, .dead]⟩) (bj_if (a1 := ⟨[.da (enc a0), .da (.int a1), .un, .ow (.lv (s5.map enc)), .da (.int i6.a), .da (.str i6.b), .da (enc j27)], [.dead, .dead, .dead]⟩) (jt_and (b := c33) (a2 := ⟨[.da (enc a0), .da (.int a1), .un, .ow (.lv (s5.map enc)), .da (.int i6.a), .da (.str i6.b), .da (enc j27)], [.dead, .dead, .dead]⟩) (jt_bool (j_two (j_var rfl) (j_lst ja_nil rfl) rfl rfl (rd_neD (x := (enc s5 : D)) (y := (enc ([] : (List Int)) : D)) (eq_ok (α := (List (T2 Int (Option Int)))) (β := (List Int)) _ _)))) (fun b34 => (match bE (ifT b34 hc33) with | ⟨x30, hx30, e35⟩ => match bE e35 with | ⟨r31, hr31, e36⟩ => match gE e36 with | ⟨hg32, e37⟩ => match sE e37 with | rfl => (jt_bool (j_two (j_ixT (j_varD rfl) j_lit rfl rfl rfl) (j_two (j_ixT (j_ixL (e := (enc : (T2 Int (Option Int)) → D)) (xs := s5) (j_var rfl) (j_one j_lit rfl rd1_neg) rfl rfl hx30) j_lit rfl rfl rfl) (j_two (j_callE (ja_cons (j_varD rfl) ja_nil) ja_nil ⟨rfl, rfl⟩ rfl rfl (x_frame_size a0 hr31) rfl (ok_sh _ r31) rfl rfl) (j_varD rfl) rfl rfl (rd_mulI hg32)) rfl rfl rd_addI) rfl rfl rd_lt)))) (fun b34 => match sE (ifF b34 hc33) with | rfl => ⟨rfl, rfl⟩)) (fun _ => bj_sk (bj_none))
 (fun _ => bj_endnx rfl ⟨(.s (.s (.s (.s (.s (.s (.s .nil))))))), rfl⟩))
 (fun j38 => bj_g fun hg39 => bj_set (e := ((s5 ++ [j27]) : (List (T2 Int (Option Int))))) (A := fun (w40 : (List (T2 Int (Option Int)))) => ⟨[.da (enc a0), .da (.int a1), .un, .ow (.lv (w40.map enc)), .da (.int i6.a), .da (.str i6.b), .da (enc j27)], [.dead, .dead, .dead]⟩) (dj_expr (j_appL (e := (enc : (T2 Int (Option Int)) → D)) (xs := s5) (x := j27) rfl (j_varD rfl) rfl rfl hg39 rfl)) (fun w40 =>
 bj_endgo rfl ⟨(.s (.s (.s (.s (wk_da (wk_da (wk_da .nil))))))), rfl⟩))))))))⟩))
 (fun s5 => bj_retq (j_var rfl) rfl rfl)))))))))))

@[irreducible] noncomputable def p__law_sending_right (a0 : (List Int)) (a1 : Int) : Option (Bool × (List Int)) :=
 (p__law_shape a0).bind fun r1 =>
 (p__law_draw r1.2 ((3 : Int))).bind fun r2 =>
 (L2.atI ([(1 : Int), (300 : Int), (100000000000000000000000000 : Int)] : (List Int)) r2.1).bind fun x3 =>
 (p__law_draw r2.2 x3).bind fun r4 =>
 letP (((1 : Int) + r4.1) : Int) fun w5 =>
 (p__law_sending r4.2 r1.1 w5 a1).bind fun r6 =>
 (loopM (fun (s15 : (List Str)) (i16 : (T2 Int Int)) =>
 if (i16.a).natAbs.log2 < 1920 then if (Str.ofString (toString i16.a)).length + (":" : Str).length ≤ sizeLine then if (i16.b).natAbs.log2 < 1920 then if ((Str.ofString (toString i16.a)) ++ (":" : Str)).length + (Str.ofString (toString i16.b)).length ≤ sizeLine then if s15.length < sizeLine then letP ((s15 ++ [(((Str.ofString (toString i16.a)) ++ (":" : Str)) ++ (Str.ofString (toString i16.b)))]) : (List Str)) fun w28 =>
 some w28 else none else none else none else none else none) r6.1 (([] : (List Str)) : (List Str))).bind fun s15 =>
 if ((s15).map (·.length)).sum + (s15).length * ((" " : Str)).length ≤ 16777216 then letP ((Txt.join (" " : Str) s15) : Str) fun w30 =>
 (p_format_sending r6.1).bind fun r31 =>
 if shwOk (PyData.str r31) then if shwOk (PyData.str w30) then if ((!decide ((PyData.shown (PyData.str r31)) = (PyData.shown (PyData.str w30)))) || (!decide (r6.1 = r6.1))) = true then some (false, r6.2)
 else (p_parse_sending r1.1 w5 w30).bind fun r34 =>
 if shwOk (enc r34 : D) then if shwOk (enc r6.1 : D) then if (!decide ((PyData.shown (enc r34 : D)) = (PyData.shown (enc r6.1 : D)))) = true then some (false, r6.2)
 else if r34.length < sizeLine then letP ((r34 ++ [(⟨(0 : Int), (some (0 : Int))⟩ : (T2 Int (Option Int)))]) : (List (T2 Int (Option Int)))) fun w38 =>
 (p_parse_sending r1.1 w5 w30).bind fun r39 =>
 if shwOk (enc r39 : D) then if shwOk (enc r6.1 : D) then if (!decide ((PyData.shown (enc r39 : D)) = (PyData.shown (enc r6.1 : D)))) = true then some (false, r6.2)
 else (p_parse_sending r1.1 ((1 : Int)) w30).bind fun r42 =>
 if shwOk (enc r42 : D) then if shwOk (enc r6.1 : D) then (if (decide ((PyData.shown (enc r42 : D)) = (PyData.shown (enc r6.1 : D)))) = true then ((p_format_sending r6.1).bind fun r45 => (some (decide (r45 = w30)))) else (some false)).bind fun c46 =>
 some (c46, r6.2) else none else none else none else none else none else none else none else none else none else none
theorem x__law_sending_right (a0 : (List Int)) (a1 : Int) {r : (Bool × (List Int))} (h : p__law_sending_right a0 a1 = some r) : outF m__law_sending_right [.own 0, .sh (.int a1)] [.lv (a0.map enc), .dead] = some (.sh (.bool r.1), [.lv (r.2.map enc), .dead]) := by
  unfold m__law_sending_right
  refine bj_fall (m := p__law_sending_right a0 a1) (o := fun (r : (Bool × (List Int))) => .rt (.sh (.bool r.1)) ([.lv (r.2.map enc), .dead])) (a := ⟨[.ar, .da (.int a1), .un, .un, .un, .un, .un, .un, .un, .un, .un], [.lv (a0.map enc), .dead]⟩) ?_ rfl h rfl
  unfold p__law_sending_right
  exact (
 bj_assoc (bj_bind fun r1 hr1 =>
 bj_bind fun r2 hr2 =>
 bj_bind fun x3 hx3 =>
 bj_bind fun r4 hr4 =>
 bj_set (e := (((1 : Int) + r4.1) : Int)) (A := fun (w5 : Int) => ⟨[.ar, .da (.int a1), .da (enc r1.1), .da (.int w5), .un, .un, .un, .un, .un, .un, .un], [.lv (r4.2.map enc), .dead]⟩) (dj_par2 (ja_cons (j_callE (ja_cons (j_var rfl) ja_nil) ja_nil ⟨rfl, rfl⟩ rfl rfl (x__law_shape a0 hr1) rfl (ok_sh _ r1.1) rfl rfl) (ja_cons (j_two j_lit (j_callE (ja_cons (j_var rfl) (ja_cons (j_ixL (e := PyData.int) (xs := ([(1 : Int), (300 : Int), (100000000000000000000000000 : Int)] : (List Int))) (j_lst (ja_cons j_lit (ja_cons j_lit (ja_cons (da_eq (d := .int ((10 : Int) ^ ((26 : Int)).toNat)) (d1 := .int (100000000000000000000000000 : Int)) (j_two j_lit j_lit rfl rfl (rd_pow (show cPow (10 : Int) (26 : Int) by decide +kernel))) (congrArg PyData.int (show ((10 : Int) ^ ((26 : Int)).toNat) = (100000000000000000000000000 : Int) by decide +kernel))) ja_nil))) rfl) (j_callE (ja_cons (j_var rfl) (ja_cons j_lit ja_nil)) ja_nil ⟨rfl, rfl⟩ rfl rfl (x__law_draw r1.2 ((3 : Int)) hr2) rfl (ok_sh _ r2.1) rfl rfl) rfl rfl hx3) ja_nil)) ja_nil ⟨rfl, rfl⟩ rfl rfl (x__law_draw r2.2 x3 hr4) rfl (ok_sh _ r4.1) rfl rfl) rfl rfl rd_addI) ja_nil)) rfl rfl) (fun w5 =>
 bj_assoc (bj_bind fun r6 hr6 =>
 bj_d (a1 := ⟨[.ar, .da (.int a1), .da (enc r1.1), .da (.int w5), .ow (.lv (r6.1.map enc)), .ow (.lv (([] : (List Int)).map enc)), .un, .un, .un, .un, .un], [.lv (r6.2.map enc), .dead]⟩) (dj_par2 (ja_cons (j_callE (ja_cons (j_var rfl) (ja_cons (j_varD rfl) (ja_cons (j_varD rfl) (ja_cons (j_varD rfl) ja_nil)))) ja_nil ⟨rfl, rfl⟩ rfl rfl (x__law_sending r4.2 r1.1 w5 a1 hr6) rfl (ok_new _ r6.1) rfl rfl) (ja_cons (j_lst ja_nil rfl) ja_nil)) rfl rfl) (bj_assoc (bj_seqb (A := fun (s15 : (List Str)) => ⟨[.un, .un, .da (enc r1.1), .da (.int w5), .ow (.lv (r6.1.map enc)), .ow (.lv (s15.map enc)), .un, .un, .un, .un, .un], [.lv (r6.2.map enc), .dead]⟩) (bj_for (a1 := ⟨[.ar, .da (.int a1), .da (enc r1.1), .da (.int w5), .ow (.lk (r6.1.map enc)), .ow (.lv (([] : (List Int)).map enc)), .un, .un, .un, .un, .un], [.lv (r6.2.map enc), .dead]⟩) (e := (enc : (T2 Int Int) → D)) (E := fun (s15 : (List Str)) => ⟨[.un, .un, .da (enc r1.1), .da (.int w5), .ow (.lk (r6.1.map enc)), .ow (.lv (s15.map enc)), .un, .un, .un, .un, .un], [.lv (r6.2.map enc), .dead]⟩) (ls := [.loc 4]) (ys := r6.1) (x0 := (([] : (List Str)) : (List Str))) (ji_seq (j_var rfl) rfl) ⟨(wk_ar (wk_da (.s (.s (.s (.s (.s (.s (.s (.s (.s .nil))))))))))), rfl⟩ (fun _ => rfl) (fun _ => rfl) (fun _ => rfl) (fun s15 i16 => ⟨⟨[.un, .un, .da (enc r1.1), .da (.int w5), .ow (.lk (r6.1.map enc)), .ow (.lv (s15.map enc)), .da (.int i16.a), .da (.int i16.b), .un, .un, .un], [.lv (r6.2.map enc), .dead]⟩, rfl, bj_sk (
 bj_g fun hg23 => bj_g fun hg24 => bj_g fun hg25 => bj_g fun hg26 => bj_g fun hg27 => bj_set (e := ((s15 ++ [(((Str.ofString (toString i16.a)) ++ (":" : Str)) ++ (Str.ofString (toString i16.b)))]) : (List Str))) (A := fun (w28 : (List Str)) => ⟨[.un, .un, .da (enc r1.1), .da (.int w5), .ow (.lk (r6.1.map enc)), .ow (.lv (w28.map enc)), .da (.int i16.a), .da (.int i16.b), .un, .un, .un], [.lv (r6.2.map enc), .dead]⟩) (dj_expr (j_appL (e := PyData.str) (xs := s15) (x := (((Str.ofString (toString i16.a)) ++ (":" : Str)) ++ (Str.ofString (toString i16.b)))) rfl (j_two (j_two (j_g1 (j_varD rfl) rfl (o_strI hg23)) j_lit rfl rfl (rd_addS hg24)) (j_g1 (j_varD rfl) rfl (o_strI hg25)) rfl rfl (rd_addS hg26)) rfl rfl hg27 rfl)) (fun w28 =>
 bj_endgo rfl ⟨(.s (.s (.s (.s (.s (.s (wk_da (wk_da (.s (.s (.s .nil))))))))))), rfl⟩))⟩))
 (fun s15 => bj_assoc (bj_g fun hg29 => bj_set (e := ((Txt.join (" " : Str) s15) : Str)) (A := fun (w30 : Str) => ⟨[.un, .un, .da (enc r1.1), .da (.int w5), .ow (.lv (r6.1.map enc)), .ow (.lv (s15.map enc)), .un, .un, .da (.str w30), .ow (.lv (r6.1.map enc)), .un], [.lv (r6.2.map enc), .dead]⟩) (dj_par2 (ja_cons (j_joinT (ys := s15) j_lit (j_var rfl) rfl hg29) (ja_cons (j_g1N (j_var rfl) rfl o_list) ja_nil)) rfl rfl) (fun w30 =>
 bj_assoc (bj_bind fun r31 hr31 =>
 bj_g fun hg32 => bj_g fun hg33 => bj_ifr (a1 := ⟨[.un, .un, .da (enc r1.1), .da (.int w5), .ow (.lv (r6.1.map enc)), .ow (.lv (s15.map enc)), .un, .un, .da (.str w30), .ow (.lv (r6.1.map enc)), .un], [.lv (r6.2.map enc), .dead]⟩) (jt_or' (jt_bool (j_two (j_g1 (j_callE (ja_cons (j_var rfl) ja_nil) ja_nil ⟨rfl, rfl⟩ rfl rfl (x_format_sending r6.1 hr31) rfl (ok_sh _ r31) rfl rfl) rfl (o_repr (d := (PyData.str r31)) hg32)) (j_g1 (j_varD rfl) rfl (o_repr (d := (PyData.str w30)) hg33)) rfl rfl (rd_neT (τ := Str) (x := (PyData.shown (PyData.str r31))) (y := (PyData.shown (PyData.str w30))) (eq_okS _ _)))) (fun _ => (jt_bool (j_two (j_var rfl) (j_var rfl) rfl rfl (rd_neT (τ := (List (T2 Int Int))) (x := r6.1) (y := r6.1) (eq_ok _ _)))))) (fun _ => bj_retq j_lit rfl rfl)
 (fun _ => bj_skip (bj_assoc (bj_bind fun r34 hr34 =>
 bj_d (a1 := ⟨[.un, .un, .da (enc r1.1), .da (.int w5), .ow (.lv (r6.1.map enc)), .ow (.lv (s15.map enc)), .un, .un, .da (.str w30), .ow (.lv (r6.1.map enc)), .ow (.lv (r34.map enc))], [.lv (r6.2.map enc), .dead]⟩) (dj_set (j_callE (ja_cons (j_varD rfl) (ja_cons (j_varD rfl) (ja_cons (j_varD rfl) ja_nil))) ja_nil ⟨rfl, rfl⟩ rfl rfl (x_parse_sending r1.1 w5 w30 hr34) rfl (ok_new _ r34) rfl rfl) rfl) (bj_assoc (bj_g fun hg35 => bj_g fun hg36 => bj_ifr (a1 := ⟨[.un, .un, .da (enc r1.1), .da (.int w5), .ow (.lv (r6.1.map enc)), .ow (.lv (s15.map enc)), .un, .un, .da (.str w30), .ow (.lv (r6.1.map enc)), .ow (.lv (r34.map enc))], [.lv (r6.2.map enc), .dead]⟩) (jt_bool (j_two (j_g1 (j_var rfl) rfl (o_repr (d := (enc r34 : D)) hg35)) (j_g1 (j_var rfl) rfl (o_repr (d := (enc r6.1 : D)) hg36)) rfl rfl (rd_neT (τ := Str) (x := (PyData.shown (enc r34 : D))) (y := (PyData.shown (enc r6.1 : D))) (eq_okS _ _)))) (fun _ => bj_retq j_lit rfl rfl)
 (fun _ => bj_skip (bj_assoc (bj_g fun hg37 => bj_set (e := ((r34 ++ [(⟨(0 : Int), (some (0 : Int))⟩ : (T2 Int (Option Int)))]) : (List (T2 Int (Option Int))))) (A := fun (w38 : (List (T2 Int (Option Int)))) => ⟨[.un, .un, .da (enc r1.1), .da (.int w5), .ow (.lv (r6.1.map enc)), .ow (.lv (s15.map enc)), .un, .un, .da (.str w30), .ow (.lv (r6.1.map enc)), .ow (.lv (w38.map enc))], [.lv (r6.2.map enc), .dead]⟩) (dj_expr (j_appL (e := (enc : (T2 Int (Option Int)) → D)) (xs := r34) (x := (⟨(0 : Int), (some (0 : Int))⟩ : (T2 Int (Option Int)))) rfl (j_tup (ja_cons j_lit (ja_cons j_lit ja_nil)) rfl) rfl rfl hg37 rfl)) (fun w38 =>
 bj_assoc (bj_bind fun r39 hr39 =>
 bj_g fun hg40 => bj_g fun hg41 => bj_ifr (a1 := ⟨[.un, .un, .da (enc r1.1), .da (.int w5), .ow (.lv (r6.1.map enc)), .ow (.lv (s15.map enc)), .un, .un, .da (.str w30), .ow (.lv (r6.1.map enc)), .ow (.lv (w38.map enc))], [.lv (r6.2.map enc), .dead]⟩) (jt_bool (j_two (j_g1 (j_callE ja_nil (ja_cons (j_varD rfl) (ja_cons (j_varD rfl) (ja_cons (j_varD rfl) ja_nil))) ⟨rfl, rfl⟩ rfl rfl (x_parse_sending r1.1 w5 w30 hr39) rfl (ok_new _ r39) rfl rfl) rfl (o_repr (d := (enc r39 : D)) hg40)) (j_g1 (j_var rfl) rfl (o_repr (d := (enc r6.1 : D)) hg41)) rfl rfl (rd_neT (τ := Str) (x := (PyData.shown (enc r39 : D))) (y := (PyData.shown (enc r6.1 : D))) (eq_okS _ _)))) (fun _ => bj_retq j_lit rfl rfl)
 (fun _ => bj_skip (bj_bind fun r42 hr42 =>
 bj_g fun hg43 => bj_g fun hg44 => bj_bind fun c46 hc46 =>
 bj_retq (j_and (b := c46) (a2 := ⟨[.un, .un, .da (enc r1.1), .da (.int w5), .ow (.lv (r6.1.map enc)), .ow (.lv (s15.map enc)), .un, .un, .da (.str w30), .ow (.lv (r6.1.map enc)), .ow (.lv (w38.map enc))], [.lv (r6.2.map enc), .dead]⟩) (j_two (j_g1 (j_callE (ja_cons (j_varD rfl) (ja_cons j_lit (ja_cons (j_varD rfl) ja_nil))) ja_nil ⟨rfl, rfl⟩ rfl rfl (x_parse_sending r1.1 ((1 : Int)) w30 hr42) rfl (ok_new _ r42) rfl rfl) rfl (o_repr (d := (enc r42 : D)) hg43)) (j_g1 (j_var rfl) rfl (o_repr (d := (enc r6.1 : D)) hg44)) rfl rfl (rd_eqT (τ := Str) (x := (PyData.shown (enc r42 : D))) (y := (PyData.shown (enc r6.1 : D))) (eq_okS _ _))) (fun b47 => (match bE (ifT b47 hc46) with | ⟨r45, hr45, e48⟩ => match sE e48 with | rfl => (j_two (j_callE ja_nil (ja_cons (j_var rfl) ja_nil) ⟨rfl, rfl⟩ rfl rfl (x_format_sending r6.1 hr45) rfl (ok_sh _ r45) rfl rfl) (j_varD rfl) rfl rfl (rd_eqT (τ := Str) (x := r45) (y := w30) (eq_okS _ _))))) (fun b47 => match sE (ifF b47 hc46) with | rfl => ⟨rfl, rfl⟩)) rfl rfl))))))))))))))))))))))

@[irreducible] noncomputable def p_format_shape (a0 : (T3 Int Str Int)) : Option (Str) :=
 if (a0.a).natAbs.log2 < 1920 then if (a0.b).length ≤ sizeLine then (sAt a0.b (0 : Int)).bind fun x3 =>
 if (Str.ofString (toString a0.a)).length + x3.length ≤ sizeLine then if (a0.c).natAbs.log2 < 1920 then if ((Str.ofString (toString a0.a)) ++ x3).length + (Str.ofString (toString a0.c)).length ≤ sizeLine then some (((Str.ofString (toString a0.a)) ++ x3) ++ (Str.ofString (toString a0.c))) else none else none else none else none else none
theorem x_format_shape (a0 : (T3 Int Str Int)) {r : (Str)} (h : p_format_shape a0 = some r) : outF m_format_shape [.sh (enc a0)] [.dead] = some (.sh (.str r), [.dead]) := by
  unfold m_format_shape
  refine bj_fall (m := p_format_shape a0) (o := fun (r : (Str)) => .rt (.sh (.str r)) ([.dead])) (a := ⟨[.da (enc a0)], [.dead]⟩) ?_ rfl h rfl
  unfold p_format_shape
  exact (
 bj_g fun hg1 => bj_g fun hg2 => bj_bind fun x3 hx3 =>
 bj_g fun hg4 => bj_g fun hg5 => bj_g fun hg6 => bj_retq (j_two (j_two (j_g1 (j_ixT (j_varD rfl) j_lit rfl rfl rfl) rfl (o_strI hg1)) (j_two (j_ixT (j_varD rfl) j_lit rfl rfl rfl) j_lit rfl rfl (rd_ixS hg2 hx3)) rfl rfl (rd_addS hg4)) (j_g1 (j_ixT (j_varD rfl) j_lit rfl rfl rfl) rfl (o_strI hg5)) rfl rfl (rd_addS hg6)) rfl rfl)

@[irreducible] noncomputable def p_shape_of (a0 : Str) : Option ((Option (T3 Int Str Int))) :=
 if a0.length ≤ sizeLine then (if (!decide ((a0.length : Int) = (3 : Int))) = true then (some true) else (if (a0).length ≤ sizeLine then ((sAt a0 (0 : Int)).bind fun x3 => ((inOne x3 ("123456789" : Str)).bind fun i4 => ((if (!i4) = true then (some true) else (if (a0).length ≤ sizeLine then ((sAt a0 (1 : Int)).bind fun x6 => ((if (!(tabGet [("n", "none"), ("e", "even"), ("o", "odd")] x6).isSome) = true then (some true) else (if (a0).length ≤ sizeLine then ((sAt a0 (2 : Int)).bind fun x8 => ((inOne x8 ("12" : Str)).bind fun i9 => (some (!i9)))) else none)).bind fun c10 => (some c10))) else none)).bind fun c15 => (some c15)))) else none)).bind fun c20 =>
 if c20 = true then some (none : (Option (T3 Int Str Int)))
 else if (a0).length ≤ sizeLine then (sAt a0 (0 : Int)).bind fun x27 =>
 if (x27).length ≤ 640 then (PySem.intText? x27).bind fun n29 =>
 if (a0).length ≤ sizeLine then (sAt a0 (1 : Int)).bind fun x31 =>
 (tabGet [("n", "none"), ("e", "even"), ("o", "odd")] x31).bind fun x32 =>
 if (a0).length ≤ sizeLine then (sAt a0 (2 : Int)).bind fun x34 =>
 if (x34).length ≤ 640 then (PySem.intText? x34).bind fun n36 =>
 some (some (⟨n29, x32, n36⟩ : (T3 Int Str Int))) else none else none else none else none else none else none
theorem x_shape_of (a0 : Str) {r : ((Option (T3 Int Str Int)))} (h : p_shape_of a0 = some r) : outF m_shape_of [.sh (.str a0)] [.dead] = some (.sh (enc r), [.dead]) := by
  unfold m_shape_of
  refine bj_fall (m := p_shape_of a0) (o := fun (r : ((Option (T3 Int Str Int)))) => .rt (.sh (enc r)) ([.dead])) (a := ⟨[.da (.str a0)], [.dead]⟩) ?_ rfl h rfl
  unfold p_shape_of
  exact (
 bj_assoc (bj_g fun hg1 => bj_bind fun c20 hc20 =>
 bj_ifr (a1 := ⟨[.da (.str a0)], [.dead]⟩) (jt_or (b := c20) (a2 := ⟨[.da (.str a0)], [.dead]⟩) (jt_bool (j_two (j_g1 (j_varD rfl) rfl (o_lenS hg1)) j_lit rfl rfl (rd_neT (τ := Int) (x := (a0.length : Int)) (y := (3 : Int)) (eq_okI _ _)))) (fun b21 => (match gE (ifF b21 hc20) with | ⟨hg2, e22⟩ => match bE e22 with | ⟨x3, hx3, e23⟩ => match bE e23 with | ⟨i4, hi4, e24⟩ => match bE e24 with | ⟨c15, hc15, e25⟩ => match sE e25 with | rfl => (jt_or (b := c15) (a2 := ⟨[.da (.str a0)], [.dead]⟩) (jt_bool (j_two (j_two (j_varD rfl) j_lit rfl rfl (rd_ixS hg2 hx3)) j_lit rfl rfl (rd_ninSg hi4))) (fun b16 => (match gE (ifF b16 hc15) with | ⟨hg5, e17⟩ => match bE e17 with | ⟨x6, hx6, e18⟩ => match bE e18 with | ⟨c10, hc10, e19⟩ => match sE e19 with | rfl => (jt_or (b := c10) (a2 := ⟨[.da (.str a0)], [.dead]⟩) (jt_bool (j_notTab (j_two (j_varD rfl) j_lit rfl rfl (rd_ixS hg5 hx6)) rfl)) (fun b11 => (match gE (ifF b11 hc10) with | ⟨hg7, e12⟩ => match bE e12 with | ⟨x8, hx8, e13⟩ => match bE e13 with | ⟨i9, hi9, e14⟩ => match sE e14 with | rfl => (jt_bool (j_two (j_two (j_varD rfl) j_lit rfl rfl (rd_ixS hg7 hx8)) j_lit rfl rfl (rd_ninSg hi9))))) (fun b11 => match sE (ifT b11 hc10) with | rfl => ⟨rfl, rfl⟩)))) (fun b16 => match sE (ifT b16 hc15) with | rfl => ⟨rfl, rfl⟩)))) (fun b21 => match sE (ifT b21 hc20) with | rfl => ⟨rfl, rfl⟩)) (fun _ => bj_retq j_lit rfl rfl)
 (fun _ => bj_skip (bj_g fun hg26 => bj_bind fun x27 hx27 =>
 bj_g fun hg28 => bj_bind fun n29 hn29 =>
 bj_g fun hg30 => bj_bind fun x31 hx31 =>
 bj_bind fun x32 hx32 =>
 bj_g fun hg33 => bj_bind fun x34 hx34 =>
 bj_g fun hg35 => bj_bind fun n36 hn36 =>
 bj_retq (j_tup (ja_cons (j_g1 (j_two (j_varD rfl) j_lit rfl rfl (rd_ixS hg26 hx27)) rfl (o_intT hg28 hn29)) (ja_cons (j_ixTab (j_two (j_varD rfl) j_lit rfl rfl (rd_ixS hg30 hx31)) rfl hx32) (ja_cons (j_g1 (j_two (j_varD rfl) j_lit rfl rfl (rd_ixS hg33 hx34)) rfl (o_intT hg35 hn36)) ja_nil))) rfl) rfl rfl))))

@[irreducible] noncomputable def p_parse_shape (a0 : Str) : Option ((T3 Int Str Int)) :=
 (p_require_string a0).bind fun r1 =>
 if (((" " : Str)).length == 0) = false ∧ (a0).length + 2 ≤ sizeLine then letP ((Txt.split a0 (" " : Str)) : (List Str)) fun words3 =>
 (L2.atI words3 (0 : Int)).bind fun x4 =>
 (p_shape_of x4).bind fun r5 =>
 (if (r5.isNone) = true then none else (r5).bind fun shape9 =>
 some shape9 : Option ((T3 Int Str Int))).bind fun j8 =>
 (if (decide ((1 : Int) < (words3.length : Int))) = true then none else some () : Option (Unit)).bind fun j11 =>
 some j8 else none
theorem x_parse_shape (a0 : Str) {r : ((T3 Int Str Int))} (h : p_parse_shape a0 = some r) : outF m_parse_shape [.sh (.str a0)] [.dead] = some (.sh (enc r), [.dead]) := by
  unfold m_parse_shape
  refine bj_fall (m := p_parse_shape a0) (o := fun (r : ((T3 Int Str Int))) => .rt (.sh (enc r)) ([.dead])) (a := ⟨[.da (.str a0), .un, .un], [.dead]⟩) ?_ rfl h rfl
  unfold p_parse_shape
  exact (
 bj_assoc (bj_bind fun r1 hr1 =>
 bj_d (a1 := ⟨[.da (.str a0), .un, .un], [.dead]⟩) (dj_expr (j_callE (ja_cons (j_varD rfl) ja_nil) ja_nil ⟨rfl, rfl⟩ rfl rfl (x_require_string a0 hr1) rfl (ok_sh _ r1) rfl rfl)) (bj_assoc (bj_g fun hg2 => bj_set (e := (Txt.split a0 (" " : Str))) (A := fun (words3 : (List Str)) => ⟨[.da (.str a0), .ow (.lv (words3.map enc)), .un], [.dead]⟩) (dj_set (j_split (j_varD rfl) j_lit rfl hg2) rfl) (fun words3 =>
 bj_assoc (bj_bind fun x4 hx4 =>
 bj_bind fun r5 hr5 =>
 bj_d (a1 := ⟨[.da (.str a0), .ow (.lv (words3.map enc)), .da (enc r5)], [.dead]⟩) (dj_set (j_callE (ja_cons (j_ixL (e := PyData.str) (xs := words3) (j_var rfl) j_lit rfl rfl hx4) ja_nil) ja_nil ⟨rfl, rfl⟩ rfl rfl (x_shape_of x4 hr5) rfl (ok_sh _ r5) rfl rfl) rfl) (bj_assoc (bj_seqb (A := fun (j8 : (T3 Int Str Int)) => ⟨[.da (.str a0), .ow (.lv (words3.map enc)), .da (enc j8)], [.dead]⟩) (bj_if (a1 := ⟨[.da (.str a0), .ow (.lv (words3.map enc)), .da (enc r5)], [.dead]⟩) (jt_bool (j_one (j_varD rfl) rfl rd_isN)) (fun _ => bj_sk (bj_none))
 (fun _ => bj_bind fun shape9 hshape9 => bj_rw (A := fun (z10 : (Option (T3 Int Str Int))) => ⟨[.da (.str a0), .ow (.lv (words3.map enc)), .da (enc z10)], [.dead]⟩) hshape9 (bj_endnx rfl ⟨(.s (.s (.s .nil))), rfl⟩)))
 (fun j8 => bj_assoc (bj_seqb (A := fun (j11 : Unit) => ⟨[.da (.str a0), .ow (.lv (words3.map enc)), .da (enc j8)], [.dead]⟩) (bj_if (a1 := ⟨[.da (.str a0), .ow (.lv (words3.map enc)), .da (enc j8)], [.dead]⟩) (jt_bool (j_two (j_g1 (j_var rfl) rfl (o_lenM (e := PyData.str) (xs := words3))) j_lit rfl rfl rd_gt)) (fun _ => bj_sk (bj_none))
 (fun _ => bj_endnx rfl ⟨(.s (.s (.s .nil))), rfl⟩))
 (fun j11 => bj_retq (j_varD rfl) rfl rfl)))))))))))

@[irreducible] noncomputable def p__law_shapes_right  : Option (Bool) :=
 if small62 (1 : Int) then if small62 (10 : Int) then (loopF (ρ := (Bool)) (fun (s3 : Unit) (i4 : Int) =>
 (loopF (ρ := (Bool)) (fun (s83 : Int) (i84 : (T2 Str Str)) =>
 (loopF (ρ := (Bool)) (fun (s123 : Int × Str) (i124 : Int) =>
 if (("0123456789" : Str)).length ≤ sizeLine then (sAt ("0123456789" : Str) s123.1).bind fun x144 =>
 if x144.length + i84.a.length ≤ sizeLine then if (("012" : Str)).length ≤ sizeLine then (sAt ("012" : Str) i124).bind fun x147 =>
 if (x144 ++ i84.a).length + x147.length ≤ sizeLine then letP (((⟨s123.1, s123.2, i124⟩ : (T3 Int Str Int)), ((x144 ++ i84.a) ++ x147)) : (T3 Int Str Int) × Str) fun w149 =>
 (p_format_shape w149.1).bind fun r150 =>
 if shwOk (PyData.str r150) then if shwOk (PyData.str w149.2) then (if (!decide ((PyData.shown (PyData.str r150)) = (PyData.shown (PyData.str w149.2)))) = true then (some true) else ((p_parse_shape w149.2).bind fun r153 => (if shwOk (enc r153 : D) then (if shwOk (enc w149.1 : D) then (some (!decide ((PyData.shown (enc r153 : D)) = (PyData.shown (enc w149.1 : D))))) else none) else none))).bind fun c156 =>
 if c156 = true then some (.rt false)
 else some (.nx (s123.1, s123.2)) else none else none else none else none else none else none) ([(⟨(1 : Int), (2 : Int)⟩ : (T2 Int Int)).a, (⟨(1 : Int), (2 : Int)⟩ : (T2 Int Int)).b] : List Int) ((s83, i84.b) : Int × Str)).bind (Lr.elim (fun s123 =>
 some (.nx s123.1)) (fun r => some (.rt r)))) ([(⟨(⟨("n" : Str), ("none" : Str)⟩ : (T2 Str Str)), (⟨("e" : Str), ("even" : Str)⟩ : (T2 Str Str)), (⟨("o" : Str), ("odd" : Str)⟩ : (T2 Str Str))⟩ : (T3 (T2 Str Str) (T2 Str Str) (T2 Str Str))).a, (⟨(⟨("n" : Str), ("none" : Str)⟩ : (T2 Str Str)), (⟨("e" : Str), ("even" : Str)⟩ : (T2 Str Str)), (⟨("o" : Str), ("odd" : Str)⟩ : (T2 Str Str))⟩ : (T3 (T2 Str Str) (T2 Str Str) (T2 Str Str))).b, (⟨(⟨("n" : Str), ("none" : Str)⟩ : (T2 Str Str)), (⟨("e" : Str), ("even" : Str)⟩ : (T2 Str Str)), (⟨("o" : Str), ("odd" : Str)⟩ : (T2 Str Str))⟩ : (T3 (T2 Str Str) (T2 Str Str) (T2 Str Str))).c] : List (T2 Str Str)) (i4 : Int)).bind (Lr.elim (fun s83 =>
 some (.nx ())) (fun r => some (.rt r)))) (rngL (1 : Int) 1 ((10 : Int) - (1 : Int)).toNat) (() : Unit)).bind (Lr.elim (fun s3 =>
 (p_format_shape ((⟨(5 : Int), ("odd" : Str), (2 : Int)⟩ : (T3 Int Str Int)))).bind fun r161 =>
 (if (decide (r161 = ("5o2" : Str))) = true then ((p_parse_shape (("5o2" : Str))).bind fun r162 => (if eqOk (enc r162) (enc (⟨(5 : Int), ("odd" : Str), (2 : Int)⟩ : (T3 Int Str Int))) = true then (some (decide (r162 = (⟨(5 : Int), ("odd" : Str), (2 : Int)⟩ : (T3 Int Str Int))))) else none)) else (some false)).bind fun c164 =>
 some c164) (fun r => some r)) else none else none
theorem x__law_shapes_right  {r : (Bool)} (h : p__law_shapes_right  = some r) : outF m__law_shapes_right [] [] = some (.sh (.bool r), []) := by
  unfold m__law_shapes_right
  refine bj_fall (m := p__law_shapes_right ) (o := fun (r : (Bool)) => .rt (.sh (.bool r)) ([])) (a := ⟨[.un, .un, .un, .un, .un, .un], []⟩) ?_ rfl h rfl
  unfold p__law_shapes_right
  exact (
 bj_assoc (bj_g fun hg1 => bj_g fun hg2 => bj_seqL (A := fun (s3 : Unit) => ⟨[.un, .un, .un, .un, .un, .un], []⟩) (V := fun (r : (Bool)) => .sh (.bool r)) (B := fun (r : (Bool)) => []) (bj_forF (a1 := ⟨[.un, .un, .un, .un, .un, .un], []⟩) (e := PyData.int) (E := fun (s3 : Unit) => ⟨[.un, .un, .un, .un, .un, .un], []⟩) (ls := []) (ys := (rngL (1 : Int) 1 ((10 : Int) - (1 : Int)).toNat)) (x0 := (() : Unit)) (V := fun (r : (Bool)) => .sh (.bool r)) (B := fun (r : (Bool)) => []) (ji_rng2 (ja_cons j_lit (ja_cons j_lit ja_nil)) hg1 hg2) ⟨(.s (.s (.s (.s (.s (.s .nil)))))), rfl⟩ (fun _ => rfl) (fun _ => rfl) (fun _ => rfl) (fun s3 i4 => ⟨⟨[.da (.int i4), .un, .un, .un, .un, .un], []⟩, rfl, bj_sk (
 bj_seqL (A := fun (s83 : Int) => ⟨[.da (.int s83), .un, .un, .un, .un, .un], []⟩) (V := fun (r : (Bool)) => .sh (.bool r)) (B := fun (r : (Bool)) => []) (bj_forF (a1 := ⟨[.da (.int i4), .un, .un, .un, .un, .un], []⟩) (e := (enc : (T2 Str Str) → D)) (E := fun (s83 : Int) => ⟨[.da (.int s83), .un, .un, .un, .un, .un], []⟩) (ls := []) (ys := ([(⟨(⟨("n" : Str), ("none" : Str)⟩ : (T2 Str Str)), (⟨("e" : Str), ("even" : Str)⟩ : (T2 Str Str)), (⟨("o" : Str), ("odd" : Str)⟩ : (T2 Str Str))⟩ : (T3 (T2 Str Str) (T2 Str Str) (T2 Str Str))).a, (⟨(⟨("n" : Str), ("none" : Str)⟩ : (T2 Str Str)), (⟨("e" : Str), ("even" : Str)⟩ : (T2 Str Str)), (⟨("o" : Str), ("odd" : Str)⟩ : (T2 Str Str))⟩ : (T3 (T2 Str Str) (T2 Str Str) (T2 Str Str))).b, (⟨(⟨("n" : Str), ("none" : Str)⟩ : (T2 Str Str)), (⟨("e" : Str), ("even" : Str)⟩ : (T2 Str Str)), (⟨("o" : Str), ("odd" : Str)⟩ : (T2 Str Str))⟩ : (T3 (T2 Str Str) (T2 Str Str) (T2 Str Str))).c] : List (T2 Str Str))) (x0 := (i4 : Int)) (V := fun (r : (Bool)) => .sh (.bool r)) (B := fun (r : (Bool)) => []) (ji_seqT (j_tup (ja_cons (j_tup (ja_cons j_lit (ja_cons j_lit ja_nil)) rfl) (ja_cons (j_tup (ja_cons j_lit (ja_cons j_lit ja_nil)) rfl) (ja_cons (j_tup (ja_cons j_lit (ja_cons j_lit ja_nil)) rfl) ja_nil))) rfl) rfl (fun _ h => by cases h)) ⟨(.s (.s (.s (.s (.s (.s .nil)))))), rfl⟩ (fun _ => rfl) (fun _ => rfl) (fun _ => rfl) (fun s83 i84 => ⟨⟨[.da (.int s83), .da (.str i84.a), .da (.str i84.b), .un, .un, .un], []⟩, rfl, bj_sk (
 bj_seqL (A := fun (s123 : Int × Str) => ⟨[.da (.int s123.1), .da (.str i84.a), .da (.str s123.2), .un, .un, .un], []⟩) (V := fun (r : (Bool)) => .sh (.bool r)) (B := fun (r : (Bool)) => []) (bj_forF (a1 := ⟨[.da (.int s83), .da (.str i84.a), .da (.str i84.b), .un, .un, .un], []⟩) (e := PyData.int) (E := fun (s123 : Int × Str) => ⟨[.da (.int s123.1), .da (.str i84.a), .da (.str s123.2), .un, .un, .un], []⟩) (ls := []) (ys := ([(⟨(1 : Int), (2 : Int)⟩ : (T2 Int Int)).a, (⟨(1 : Int), (2 : Int)⟩ : (T2 Int Int)).b] : List Int)) (x0 := ((s83, i84.b) : Int × Str)) (V := fun (r : (Bool)) => .sh (.bool r)) (B := fun (r : (Bool)) => []) (ji_seqT (j_tup (ja_cons j_lit (ja_cons j_lit ja_nil)) rfl) rfl (fun _ h => by cases h)) ⟨(.s (.s (.s (.s (.s (.s .nil)))))), rfl⟩ (fun _ => rfl) (fun _ => rfl) (fun _ => rfl) (fun s123 i124 => ⟨⟨[.da (.int s123.1), .da (.str i84.a), .da (.str s123.2), .da (.int i124), .un, .un], []⟩, rfl, bj_sk (
 bj_assoc (bj_g fun hg143 => bj_bind fun x144 hx144 =>
 bj_g fun hg145 => bj_g fun hg146 => bj_bind fun x147 hx147 =>
 bj_g fun hg148 => bj_set (e := (((⟨s123.1, s123.2, i124⟩ : (T3 Int Str Int)), ((x144 ++ i84.a) ++ x147)) : (T3 Int Str Int) × Str)) (A := fun (w149 : (T3 Int Str Int) × Str) => ⟨[.da (.int s123.1), .da (.str i84.a), .da (.str s123.2), .da (.int i124), .da (enc w149.1), .da (.str w149.2)], []⟩) (dj_par2 (ja_cons (j_tup (ja_cons (j_varD rfl) (ja_cons (j_varD rfl) (ja_cons (j_varD rfl) ja_nil))) rfl) (ja_cons (j_two (j_two (j_two j_lit (j_varD rfl) rfl rfl (rd_ixS hg143 hx144)) (j_varD rfl) rfl rfl (rd_addS hg145)) (j_two j_lit (j_varD rfl) rfl rfl (rd_ixS hg146 hx147)) rfl rfl (rd_addS hg148)) ja_nil)) rfl rfl) (fun w149 =>
 bj_bind fun r150 hr150 =>
 bj_g fun hg151 => bj_g fun hg152 => bj_bind fun c156 hc156 =>
 bj_ifr (a1 := ⟨[.da (.int s123.1), .da (.str i84.a), .da (.str s123.2), .da (.int i124), .da (enc w149.1), .da (.str w149.2)], []⟩) (jt_or (b := c156) (a2 := ⟨[.da (.int s123.1), .da (.str i84.a), .da (.str s123.2), .da (.int i124), .da (enc w149.1), .da (.str w149.2)], []⟩) (jt_bool (j_two (j_g1 (j_callE (ja_cons (j_varD rfl) ja_nil) ja_nil ⟨rfl, rfl⟩ rfl rfl (x_format_shape w149.1 hr150) rfl (ok_sh _ r150) rfl rfl) rfl (o_repr (d := (PyData.str r150)) hg151)) (j_g1 (j_varD rfl) rfl (o_repr (d := (PyData.str w149.2)) hg152)) rfl rfl (rd_neT (τ := Str) (x := (PyData.shown (PyData.str r150))) (y := (PyData.shown (PyData.str w149.2))) (eq_okS _ _)))) (fun b157 => (match bE (ifF b157 hc156) with | ⟨r153, hr153, e158⟩ => match gE e158 with | ⟨hg154, e159⟩ => match gE e159 with | ⟨hg155, e160⟩ => match sE e160 with | rfl => (jt_bool (j_two (j_g1 (j_callE (ja_cons (j_varD rfl) ja_nil) ja_nil ⟨rfl, rfl⟩ rfl rfl (x_parse_shape w149.2 hr153) rfl (ok_sh _ r153) rfl rfl) rfl (o_repr (d := (enc r153 : D)) hg154)) (j_g1 (j_varD rfl) rfl (o_repr (d := (enc w149.1 : D)) hg155)) rfl rfl (rd_neT (τ := Str) (x := (PyData.shown (enc r153 : D))) (y := (PyData.shown (enc w149.1 : D))) (eq_okS _ _)))))) (fun b157 => match sE (ifT b157 hc156) with | rfl => ⟨rfl, rfl⟩)) (fun _ => bj_retq j_lit rfl rfl)
 (fun _ => bj_skip (bj_endgo rfl ⟨(.s (.s (.s (wk_da (wk_da (wk_da .nil)))))), rfl⟩)))))⟩))
 (fun s123 => bj_el (bj_endgo rfl ⟨(.s (wk_da (wk_da (.s (.s (.s .nil)))))), rfl⟩)) (fun r => ⟨_, rfl, rfl⟩))⟩))
 (fun s83 => bj_el (bj_endgo rfl ⟨(wk_da (.s (.s (.s (.s (.s .nil)))))), rfl⟩)) (fun r => ⟨_, rfl, rfl⟩))⟩))
 (fun s3 => bj_el (bj_bind fun r161 hr161 =>
 bj_bind fun c164 hc164 =>
 bj_retq (j_and (b := c164) (a2 := ⟨[.un, .un, .un, .un, .un, .un], []⟩) (j_two (j_callE ja_nil (ja_cons (j_tup (ja_cons j_lit (ja_cons j_lit (ja_cons j_lit ja_nil))) rfl) ja_nil) ⟨rfl, rfl⟩ rfl rfl (x_format_shape ((⟨(5 : Int), ("odd" : Str), (2 : Int)⟩ : (T3 Int Str Int))) hr161) rfl (ok_sh _ r161) rfl rfl) j_lit rfl rfl (rd_eqT (τ := Str) (x := r161) (y := ("5o2" : Str)) (eq_okS _ _))) (fun b165 => (match bE (ifT b165 hc164) with | ⟨r162, hr162, e166⟩ => match gE e166 with | ⟨hg163, e167⟩ => match sE e167 with | rfl => (j_two (j_callE ja_nil (ja_cons j_lit ja_nil) ⟨rfl, rfl⟩ rfl rfl (x_parse_shape (("5o2" : Str)) hr162) rfl (ok_sh _ r162) rfl rfl) (j_tup (ja_cons j_lit (ja_cons j_lit (ja_cons j_lit ja_nil))) rfl) rfl rfl (rd_eqT (τ := (T3 Int Str Int)) (x := r162) (y := (⟨(5 : Int), ("odd" : Str), (2 : Int)⟩ : (T3 Int Str Int))) hg163)))) (fun b165 => match sE (ifF b165 hc164) with | rfl => ⟨rfl, rfl⟩)) rfl rfl)) (fun r => ⟨_, rfl, rfl⟩)))

@[irreducible] noncomputable def p_law (a0 : (List Int)) : Option (Bool) :=
 if small62 (max (1 : Int) (min (8 : Int) (a0.length : Int))) then (loopF (ρ := (Bool)) (fun (s2 : Unit) (i3 : Int) =>
 (p__law_source a0 i3).bind fun r23 =>
 (p__law_draw r23 ((31 : Int))).bind fun r24 =>
 (p__law_signal r24.2 r24.1).bind fun r25 =>
 (p__law_signal_right r25.1).bind fun r26 =>
 if (!r26) = true then some (.rt false)
 else (compB (fun (y27 : Int) => (if cMul y27 (100000000000000000000000000000 : Int) then (if ((y27 * (100000000000000000000000000000 : Int))).natAbs.log2 < 1920 then (some [(Str.ofString (toString (y27 * (100000000000000000000000000000 : Int))))]) else none) else none)) r25.1).bind fun zs31 =>
 if zs31.length ≤ sizeLine then if ((zs31).map (·.length)).sum + (zs31).length * ((" " : Str)).length ≤ 16777216 then letP ((Txt.join (" " : Str) zs31) : Str) fun far37 =>
 (p_multiplied r25.1 ((100000000000000000000000000000 : Int))).bind fun r38 =>
 (p_format_signal r38).bind fun r39 =>
 if (!decide (r39 = far37)) = true then some (.rt false)
 else (p__law_draw r25.2 ((9 : Int))).bind fun r40 =>
 (p__law_sending_right r40.2 r40.1).bind fun r41 =>
 if (!r41.1) = true then some (.rt false)
 else some (.nx ()) else none else none) (rngL 0 1 ((max (1 : Int) (min (8 : Int) (a0.length : Int)))).toNat) (() : Unit)).bind (Lr.elim (fun s2 =>
 (p__law_source a0 ((0 : Int))).bind fun r42 =>
 (p__law_draw r42 ((101 : Int))).bind fun r43 =>
 (p__law_signal r43.2 (((700 : Int) + r43.1))).bind fun r44 =>
 (p__law_signal_right r44.1).bind fun r45 =>
 if (!r45) = true then some false
 else (p__law_draw r44.2 ((11 : Int))).bind fun r46 =>
 (p__law_sending_right r46.2 (((50 : Int) + r46.1))).bind fun r47 =>
 if (!r47.1) = true then some false
 else letP (([(-999999999999999999999999999999 : Int), (-(1 : Int)), (0 : Int), (999999999999999999999999999999 : Int)] : (List Int)) : (List Int)) fun great48 =>
 (p__law_signal_right great48).bind fun r49 =>
 (if (!r49) = true then (some true) else ((p__law_signal_right (([] : (List Int)))).bind fun r50 => (some (!r50)))).bind fun c51 =>
 if c51 = true then some false
 else (p_format_sending (([] : (List (T2 Int Int))))).bind fun r54 =>
 (if (decide (r54 = ("" : Str))) = true then ((p_parse_sending ((⟨(8 : Int), ("none" : Str), (1 : Int)⟩ : (T3 Int Str Int))) ((9 : Int)) (("" : Str))).bind fun r55 => ((if (PyData.eqv (enc r55 : D) (enc ([] : (List Int)) : D)) = true then ((p__law_shapes_right ).bind fun r56 => (some r56)) else (some false)).bind fun c57 => (some c57))) else (some false)).bind fun c60 =>
 some c60) (fun r => some r)) else none
theorem x_law (a0 : (List Int)) {r : (Bool)} (h : p_law a0 = some r) : outF m_law [.sh (.list (a0.map enc))] [.dead] = some (.sh (.bool r), [.dead]) := by
  unfold m_law
  refine bj_fall (m := p_law a0) (o := fun (r : (Bool)) => .rt (.sh (.bool r)) ([.dead])) (a := ⟨[.da (.list (a0.map enc)), .un, .un, .un, .un, .un, .un], [.dead]⟩) ?_ rfl h rfl
  unfold p_law
  exact (
 bj_assoc (bj_g fun hg1 => bj_seqL (A := fun (s2 : Unit) => ⟨[.da (.list (a0.map enc)), .un, .un, .un, .un, .un, .un], [.dead]⟩) (V := fun (r : (Bool)) => .sh (.bool r)) (B := fun (r : (Bool)) => [.dead]) (bj_forF (a1 := ⟨[.da (.list (a0.map enc)), .un, .un, .un, .un, .un, .un], [.dead]⟩) (e := PyData.int) (E := fun (s2 : Unit) => ⟨[.da (.list (a0.map enc)), .un, .un, .un, .un, .un, .un], [.dead]⟩) (ls := []) (ys := (rngL 0 1 ((max (1 : Int) (min (8 : Int) (a0.length : Int)))).toNat)) (x0 := (() : Unit)) (V := fun (r : (Bool)) => .sh (.bool r)) (B := fun (r : (Bool)) => [.dead]) (ji_rng1 (ja_cons (j_g2 j_lit (j_g2 j_lit (j_g1 (j_varD rfl) rfl (o_lenM (e := PyData.int) (xs := a0))) rfl rfl o_min2) rfl rfl o_max2) ja_nil) hg1) ⟨(.s (.s (.s (.s (.s (.s (.s .nil))))))), rfl⟩ (fun _ => rfl) (fun _ => rfl) (fun _ => rfl) (fun s2 i3 => ⟨⟨[.da (.list (a0.map enc)), .da (.int i3), .un, .un, .un, .un, .un], [.dead]⟩, rfl, bj_sk (
 bj_assoc (bj_bind fun r23 hr23 =>
 bj_d (a1 := ⟨[.da (.list (a0.map enc)), .da (.int i3), .ow (.lv (r23.map enc)), .un, .un, .un, .un], [.dead]⟩) (dj_set (j_callE (ja_cons (j_varD rfl) (ja_cons (j_varD rfl) ja_nil)) ja_nil ⟨rfl, rfl⟩ rfl rfl (x__law_source a0 i3 hr23) rfl (ok_new _ r23) rfl rfl) rfl) (bj_assoc (bj_bind fun r24 hr24 =>
 bj_bind fun r25 hr25 =>
 bj_d (a1 := ⟨[.da (.list (a0.map enc)), .da (.int i3), .ow (.lv (r25.2.map enc)), .ow (.lv (r25.1.map enc)), .un, .un, .un], [.dead]⟩) (dj_set (j_callE (ja_cons (j_var rfl) (ja_cons (j_callE (ja_cons (j_var rfl) (ja_cons j_lit ja_nil)) ja_nil ⟨rfl, rfl⟩ rfl rfl (x__law_draw r23 ((31 : Int)) hr24) rfl (ok_sh _ r24.1) rfl rfl) ja_nil)) ja_nil ⟨rfl, rfl⟩ rfl rfl (x__law_signal r24.2 r24.1 hr25) rfl (ok_new _ r25.1) rfl rfl) rfl) (bj_assoc (bj_bind fun r26 hr26 =>
 bj_ifr (a1 := ⟨[.da (.list (a0.map enc)), .da (.int i3), .ow (.lv (r25.2.map enc)), .ow (.lv (r25.1.map enc)), .un, .un, .un], [.dead]⟩) (jt_not (jt_truB (j_callE (ja_cons (j_var rfl) ja_nil) ja_nil ⟨rfl, rfl⟩ rfl rfl (x__law_signal_right r25.1 hr26) rfl (ok_sh _ r26) rfl rfl) rfl)) (fun _ => bj_retq j_lit rfl rfl)
 (fun _ => bj_skip (bj_assoc (bj_bind fun zs31 hzs31 =>
 bj_g fun hg32 => bj_g fun hg36 => bj_set (e := (Txt.join (" " : Str) zs31)) (A := fun (far37 : Str) => ⟨[.da (.list (a0.map enc)), .da (.int i3), .ow (.lv (r25.2.map enc)), .ow (.lv (r25.1.map enc)), .da (.str far37), .un, .un], [.dead]⟩) (dj_set (j_joinT (ys := zs31) j_lit (j_compE (e := PyData.int) (e' := PyData.str) (ls := [.loc 3]) (step := fun y27 => (if cMul y27 (100000000000000000000000000000 : Int) then (if ((y27 * (100000000000000000000000000000 : Int))).natAbs.log2 < 1920 then (some [(Str.ofString (toString (y27 * (100000000000000000000000000000 : Int))))]) else none) else none)) (zs := zs31) (ji_seq (j_var rfl) rfl) rfl rfl rfl hzs31 hg32 (fun _ y27 _ h30 => (match gE h30 with | ⟨hg28, e34⟩ => match gE e34 with | ⟨hg29, e35⟩ => match sE e35 with | rfl => ⟨⟨[.da (.list (a0.map enc)), .da (.int i3), .ow (.lv (r25.2.map enc)), .ow (.lk (r25.1.map enc)), .un, .da (.int y27), .un], [.dead]⟩, rfl, ct_one jt_yes (j_g1 (j_two (j_varD rfl) (da_eq (d := .int ((10 : Int) ^ ((29 : Int)).toNat)) (d1 := .int (100000000000000000000000000000 : Int)) (j_two j_lit j_lit rfl rfl (rd_pow (show cPow (10 : Int) (29 : Int) by decide +kernel))) (congrArg PyData.int (show ((10 : Int) ^ ((29 : Int)).toNat) = (100000000000000000000000000000 : Int) by decide +kernel))) rfl rfl (rd_mulI hg28)) rfl (o_strI hg29)) rfl⟩)) rfl) rfl hg36) rfl) (fun far37 =>
 bj_assoc (bj_bind fun r38 hr38 =>
 bj_bind fun r39 hr39 =>
 bj_ifr (a1 := ⟨[.da (.list (a0.map enc)), .da (.int i3), .ow (.lv (r25.2.map enc)), .ow (.lv (r25.1.map enc)), .da (.str far37), .un, .un], [.dead]⟩) (jt_bool (j_two (j_callE (ja_cons (j_callE (ja_cons (j_var rfl) (ja_cons (da_eq (d := .int ((10 : Int) ^ ((29 : Int)).toNat)) (d1 := .int (100000000000000000000000000000 : Int)) (j_two j_lit j_lit rfl rfl (rd_pow (show cPow (10 : Int) (29 : Int) by decide +kernel))) (congrArg PyData.int (show ((10 : Int) ^ ((29 : Int)).toNat) = (100000000000000000000000000000 : Int) by decide +kernel))) ja_nil)) ja_nil ⟨rfl, rfl⟩ rfl rfl (x_multiplied r25.1 ((100000000000000000000000000000 : Int)) hr38) rfl (ok_new _ r38) rfl rfl) ja_nil) ja_nil ⟨rfl, rfl⟩ rfl rfl (x_format_signal r38 hr39) rfl (ok_sh _ r39) rfl rfl) (j_varD rfl) rfl rfl (rd_neT (τ := Str) (x := r39) (y := far37) (eq_okS _ _)))) (fun _ => bj_retq j_lit rfl rfl)
 (fun _ => bj_skip (bj_bind fun r40 hr40 =>
 bj_bind fun r41 hr41 =>
 bj_ifr (a1 := ⟨[.da (.list (a0.map enc)), .da (.int i3), .ow (.lv (r41.2.map enc)), .ow (.lv (r25.1.map enc)), .da (.str far37), .un, .un], [.dead]⟩) (jt_not (jt_truB (j_callE (ja_cons (j_var rfl) (ja_cons (j_callE (ja_cons (j_var rfl) (ja_cons j_lit ja_nil)) ja_nil ⟨rfl, rfl⟩ rfl rfl (x__law_draw r25.2 ((9 : Int)) hr40) rfl (ok_sh _ r40.1) rfl rfl) ja_nil)) ja_nil ⟨rfl, rfl⟩ rfl rfl (x__law_sending_right r40.2 r40.1 hr41) rfl (ok_sh _ r41.1) rfl rfl) rfl)) (fun _ => bj_retq j_lit rfl rfl)
 (fun _ => bj_skip (bj_endgo rfl ⟨(.s (wk_da (wk_lv (wk_lv (wk_da (.s (.s .nil))))))), rfl⟩)))))))))))))))⟩))
 (fun s2 => bj_el (bj_assoc (bj_bind fun r42 hr42 =>
 bj_d (a1 := ⟨[.da (.list (a0.map enc)), .un, .ow (.lv (r42.map enc)), .un, .un, .un, .un], [.dead]⟩) (dj_set (j_callE (ja_cons (j_varD rfl) (ja_cons j_lit ja_nil)) ja_nil ⟨rfl, rfl⟩ rfl rfl (x__law_source a0 ((0 : Int)) hr42) rfl (ok_new _ r42) rfl rfl) rfl) (bj_assoc (bj_bind fun r43 hr43 =>
 bj_bind fun r44 hr44 =>
 bj_bind fun r45 hr45 =>
 bj_ifr (a1 := ⟨[.da (.list (a0.map enc)), .un, .ow (.lv (r44.2.map enc)), .un, .un, .un, .un], [.dead]⟩) (jt_not (jt_truB (j_callE (ja_cons (j_callE (ja_cons (j_var rfl) (ja_cons (j_two j_lit (j_callE (ja_cons (j_var rfl) (ja_cons j_lit ja_nil)) ja_nil ⟨rfl, rfl⟩ rfl rfl (x__law_draw r42 ((101 : Int)) hr43) rfl (ok_sh _ r43.1) rfl rfl) rfl rfl rd_addI) ja_nil)) ja_nil ⟨rfl, rfl⟩ rfl rfl (x__law_signal r43.2 (((700 : Int) + r43.1)) hr44) rfl (ok_new _ r44.1) rfl rfl) ja_nil) ja_nil ⟨rfl, rfl⟩ rfl rfl (x__law_signal_right r44.1 hr45) rfl (ok_sh _ r45) rfl rfl) rfl)) (fun _ => bj_retq j_lit rfl rfl)
 (fun _ => bj_skip (bj_assoc (bj_bind fun r46 hr46 =>
 bj_bind fun r47 hr47 =>
 bj_ifr (a1 := ⟨[.da (.list (a0.map enc)), .un, .ow (.lv (r47.2.map enc)), .un, .un, .un, .un], [.dead]⟩) (jt_not (jt_truB (j_callE (ja_cons (j_var rfl) (ja_cons (j_two j_lit (j_callE (ja_cons (j_var rfl) (ja_cons j_lit ja_nil)) ja_nil ⟨rfl, rfl⟩ rfl rfl (x__law_draw r44.2 ((11 : Int)) hr46) rfl (ok_sh _ r46.1) rfl rfl) rfl rfl rd_addI) ja_nil)) ja_nil ⟨rfl, rfl⟩ rfl rfl (x__law_sending_right r46.2 (((50 : Int) + r46.1)) hr47) rfl (ok_sh _ r47.1) rfl rfl) rfl)) (fun _ => bj_retq j_lit rfl rfl)
 (fun _ => bj_skip (bj_assoc (bj_set (e := ([(-999999999999999999999999999999 : Int), (-(1 : Int)), (0 : Int), (999999999999999999999999999999 : Int)] : (List Int))) (A := fun (great48 : (List Int)) => ⟨[.da (.list (a0.map enc)), .un, .ow (.lv (r47.2.map enc)), .un, .un, .un, .ow (.lv (great48.map enc))], [.dead]⟩) (dj_set (j_lst (ja_cons (da_eq (d := .int ((1 : Int) - (1000000000000000000000000000000 : Int))) (d1 := .int (-999999999999999999999999999999 : Int)) (j_two j_lit (da_eq (d := .int ((10 : Int) ^ ((30 : Int)).toNat)) (d1 := .int (1000000000000000000000000000000 : Int)) (j_two j_lit j_lit rfl rfl (rd_pow (show cPow (10 : Int) (30 : Int) by decide +kernel))) (congrArg PyData.int (show ((10 : Int) ^ ((30 : Int)).toNat) = (1000000000000000000000000000000 : Int) by decide +kernel))) rfl rfl rd_sub) (congrArg PyData.int (show ((1 : Int) - (1000000000000000000000000000000 : Int)) = (-999999999999999999999999999999 : Int) by decide +kernel))) (ja_cons (j_one j_lit rfl rd1_neg) (ja_cons j_lit (ja_cons (da_eq (d := .int ((1000000000000000000000000000000 : Int) - (1 : Int))) (d1 := .int (999999999999999999999999999999 : Int)) (j_two (da_eq (d := .int ((10 : Int) ^ ((30 : Int)).toNat)) (d1 := .int (1000000000000000000000000000000 : Int)) (j_two j_lit j_lit rfl rfl (rd_pow (show cPow (10 : Int) (30 : Int) by decide +kernel))) (congrArg PyData.int (show ((10 : Int) ^ ((30 : Int)).toNat) = (1000000000000000000000000000000 : Int) by decide +kernel))) j_lit rfl rfl rd_sub) (congrArg PyData.int (show ((1000000000000000000000000000000 : Int) - (1 : Int)) = (999999999999999999999999999999 : Int) by decide +kernel))) ja_nil)))) rfl) rfl) (fun great48 =>
 bj_assoc (bj_bind fun r49 hr49 =>
 bj_bind fun c51 hc51 =>
 bj_ifr (a1 := ⟨[.da (.list (a0.map enc)), .un, .ow (.lv (r47.2.map enc)), .un, .un, .un, .ow (.lv (great48.map enc))], [.dead]⟩) (jt_or (b := c51) (a2 := ⟨[.da (.list (a0.map enc)), .un, .ow (.lv (r47.2.map enc)), .un, .un, .un, .ow (.lv (great48.map enc))], [.dead]⟩) (jt_not (jt_truB (j_callE (ja_cons (j_var rfl) ja_nil) ja_nil ⟨rfl, rfl⟩ rfl rfl (x__law_signal_right great48 hr49) rfl (ok_sh _ r49) rfl rfl) rfl)) (fun b52 => (match bE (ifF b52 hc51) with | ⟨r50, hr50, e53⟩ => match sE e53 with | rfl => (jt_not (jt_truB (j_callE (ja_cons (j_lst ja_nil rfl) ja_nil) ja_nil ⟨rfl, rfl⟩ rfl rfl (x__law_signal_right (([] : (List Int))) hr50) rfl (ok_sh _ r50) rfl rfl) rfl)))) (fun b52 => match sE (ifT b52 hc51) with | rfl => ⟨rfl, rfl⟩)) (fun _ => bj_retq j_lit rfl rfl)
 (fun _ => bj_skip (bj_bind fun r54 hr54 =>
 bj_bind fun c60 hc60 =>
 bj_retq (j_and (b := c60) (a2 := ⟨[.da (.list (a0.map enc)), .un, .ow (.lv (r47.2.map enc)), .un, .un, .un, .ow (.lv (great48.map enc))], [.dead]⟩) (j_two (j_callE (ja_cons (j_lst ja_nil rfl) ja_nil) ja_nil ⟨rfl, rfl⟩ rfl rfl (x_format_sending (([] : (List (T2 Int Int)))) hr54) rfl (ok_sh _ r54) rfl rfl) j_lit rfl rfl (rd_eqT (τ := Str) (x := r54) (y := ("" : Str)) (eq_okS _ _))) (fun b61 => (match bE (ifT b61 hc60) with | ⟨r55, hr55, e62⟩ => match bE e62 with | ⟨c57, hc57, e63⟩ => match sE e63 with | rfl => (j_and (b := c57) (a2 := ⟨[.da (.list (a0.map enc)), .un, .ow (.lv (r47.2.map enc)), .un, .un, .un, .ow (.lv (great48.map enc))], [.dead]⟩) (j_two (j_callE (ja_cons (j_tup (ja_cons j_lit (ja_cons j_lit (ja_cons j_lit ja_nil))) rfl) (ja_cons j_lit (ja_cons j_lit ja_nil))) ja_nil ⟨rfl, rfl⟩ rfl rfl (x_parse_sending ((⟨(8 : Int), ("none" : Str), (1 : Int)⟩ : (T3 Int Str Int))) ((9 : Int)) (("" : Str)) hr55) rfl (ok_new _ r55) rfl rfl) (j_lst ja_nil rfl) rfl rfl (rd_eqD (x := (enc r55 : D)) (y := (enc ([] : (List Int)) : D)) (eq_ok (α := (List (T2 Int (Option Int)))) (β := (List Int)) _ _))) (fun b58 => (match bE (ifT b58 hc57) with | ⟨r56, hr56, e59⟩ => match sE e59 with | rfl => (j_callE ja_nil ja_nil ⟨rfl, rfl⟩ rfl rfl (x__law_shapes_right  hr56) rfl (ok_sh _ r56) rfl rfl))) (fun b58 => match sE (ifF b58 hc57) with | rfl => ⟨rfl, rfl⟩)))) (fun b61 => match sE (ifF b61 hc60) with | rfl => ⟨rfl, rfl⟩)) rfl rfl))))))))))))))) (fun r => ⟨_, rfl, rfl⟩)))

end P
namespace P
open PySem PySem.Spec PyProof.Rows L2 E
variable {f : T3 Int Str Int} {r : T3 Int Int Int} {g : Nat → Int} {lv : List Int}
def Pool (b : Int) (a : List Int) : Prop := ∃ l q k : Int, a = [l, q, k] ∧ 0 ≤ l ∧ 0 ≤ q ∧ q < 2 ^ 80 ∧ 0 ≤ k ∧ k ≤ b
theorem pool_ok (ns : List Int) (k : Nat) (hk : k < 1000) : Ok (p__law_source ns (k : Int)) (Pool 0) := by
  unfold p__law_source
  refine ok_bind (Q := fun _ => True) ?_ fun v _ => ?_
  · refine ok_if (fun h => ?_) fun _ => ok_some trivial
    have h : (k : Int) < (ns.length : Int) := of_decide_eq_true h
    have : L2.atI ns (k : Int) = some (ns[k]'(by omega)) := by
      unfold L2.atI ixN
      rw [if_pos (by omega), if_pos h]
      simp
    rw [this]
    exact ok_some trivial
  · rw [letP_def]
    refine ok_g (cMul_of (sm_of (by decide +kernel) (by decide +kernel)) (sm_of (by omega) (by omega))) (ok_some ⟨_, _, _, rfl, ?_, ?_, ?_, by omega, by omega⟩)
    · split
      · rename_i h
        have := of_decide_eq_true h
        have e : (10 : Int) ^ ((18 : Int)).toNat = 1000000000000000000 := by decide +kernel
        first | omega | (rw [e] at *; omega)
      · omega
    · have := Int.emod_nonneg v (show (2305843009213693951 : Int) ≠ 0 by decide); omega
    · have := Int.emod_lt_of_pos v (show (0 : Int) < 2305843009213693951 by decide); omega
theorem draw_ok {b m : Int} {a : List Int} (h : Pool b a) (hb : b < 2 ^ 59) (hm : 0 < m) (hm2 : m < 10 ^ 250) : Ok (p__law_draw a m) (fun r => (0 ≤ r.1 ∧ r.1 < m) ∧ Pool (b + 1) r.2) := by
  obtain ⟨l, q, k, rfl, l0, q0, q1, k0, k1⟩ := h
  have e0 : L2.atI [l, q, k] (0 : Int) = some l := rfl
  have e2 : L2.atI [l, q, k] (2 : Int) = some k := rfl
  have i0 : ixN [l, q, k].length (0 : Int) = some 0 := rfl
  have i2 : ixN [l, q, k].length (2 : Int) = some 2 := rfl
  have s2 : ∀ z : Int, [l, q, k].set 2 z = [l, q, z] := fun _ => rfl
  have s0 : ∀ z : Int, [l, q, k].set 0 z = [z, q, k] := fun _ => rfl
  have f1 : ∀ z : Int, L2.atI [l, q, z] (1 : Int) = some q := fun _ => rfl
  have f2 : ∀ z : Int, L2.atI [l, q, z] (2 : Int) = some z := fun _ => rfl
  have smm : Sm m := sm_of (by omega) (by omega)
  unfold p__law_draw
  simp only [e0, e2, i0, i2, s2, s0, f1, f2, Option.bind_some, letP_def]
  refine ok_if (fun h => ?_) fun _ => ?_
  · refine ok_g hm (ok_g (cDiv_of hm smm) (ok_some ⟨⟨Int.emod_nonneg _ (by omega), Int.emod_lt_of_pos _ hm⟩, _, _, _, rfl, Int.ediv_nonneg l0 (by omega), q0, q1, k0, by omega⟩))
  · have sk : Sm (k + 1) := sm_of (by omega) (by omega)
    refine ok_g (cMul_of (sm_of (by decide +kernel) (by decide +kernel)) sk) ?_
    refine ok_g (cPow3_of (sm_of (by omega) (by omega))) ?_
    refine ok_g (cMul_of (sm_of (by decide +kernel) (by decide +kernel)) sk) ?_
    generalize (q + 2750159 * (k + 1)) ^ ((3 : Int)).toNat = A
    have a1 := Int.emod_nonneg A (show (100000000000000000000000000000000000133 : Int) ≠ 0 by decide)
    have a2 := Int.emod_lt_of_pos A (show (0 : Int) < 100000000000000000000000000000000000133 by decide)
    refine ok_g (cPow3_of (sm_of (by omega) (by omega))) ?_
    refine ok_g hm (ok_some ⟨⟨Int.emod_nonneg _ (by omega), Int.emod_lt_of_pos _ hm⟩, _, _, _, rfl, l0, q0, q1, by omega, by omega⟩)
theorem shape_ok {b : Int} {a : List Int} (h : Pool b a) (hb : b < 2 ^ 58) : Ok (p__law_shape a) (fun r => ShpOk r.1 ∧ Pool (b + 3) r.2) := by
  unfold p__law_shape
  refine ok_bind (draw_ok h (by omega) (by decide) (by decide)) fun r1 ⟨h1, s1⟩ => ?_
  refine ok_bind (ok_at h1.1 (by simp only [List.length_cons, List.length_nil]; omega)) fun x hx => ?_
  refine ok_bind (draw_ok s1 (by omega) (by decide) (by decide)) fun r2 ⟨h2, s2⟩ => ?_
  refine ok_bind (draw_ok s2 (by omega) (by decide) (by decide)) fun r4 ⟨h4, s4⟩ => ?_
  refine ok_some ⟨⟨?_, ?_, hx, ?_⟩, ?_⟩
  · show 1 ≤ 1 + r2.1; omega
  · show 1 + r2.1 ≤ 9; omega
  · show 1 + r4.1 = 1 ∨ 1 + r4.1 = 2; omega
  · rw [show b + 3 = b + 1 + 1 + 1 by omega]; exact s4
theorem pool_mono {b c : Int} {a : List Int} (h : Pool b a) (hc : b ≤ c) : Pool c a := by
  obtain ⟨l, q, k, e, x1, x2, x3, x4, x5⟩ := h
  exact ⟨l, q, k, e, x1, x2, x3, x4, by omega⟩
def NumOk (f : T3 Int Str Int) (x : Int) : Prop := 0 ≤ x ∧ x < 2 ^ f.a.toNat
theorem two9 {f : T3 Int Str Int} (h : ShpOk f) : (1 : Int) ≤ 2 ^ f.a.toNat ∧ (2 : Int) ^ f.a.toNat ≤ 512 := by
  have h1 := h.b1; have h2 := h.b9
  have : f.a.toNat = 1 ∨ f.a.toNat = 2 ∨ f.a.toNat = 3 ∨ f.a.toNat = 4 ∨ f.a.toNat = 5 ∨ f.a.toNat = 6 ∨ f.a.toNat = 7 ∨ f.a.toNat = 8 ∨ f.a.toNat = 9 := by omega
  rcases this with e | e | e | e | e | e | e | e | e <;> rw [e] <;> decide
theorem text_ok {f : T3 Int Str Int} (hf : ShpOk f) {b m : Int} {a : List Int} (h : Pool b a) (hb : b < 2 ^ 50) (h0 : 0 ≤ m) (h1 : m ≤ 100) : Ok (p__law_text a f m) (fun r => (r.1.length : Int) = m ∧ (∀ x ∈ r.1, NumOk f x) ∧ Pool (b + 300) r.2) := by
  have q1 := hf.b1; have q2 := hf.b9
  have t9 := two9 hf
  unfold p__law_text
  rw [letP_def]
  refine ok_g (sm62 (by omega) (by omega)) ?_
  refine ok_bind (Q := fun z => z = 2 ^ f.a.toNat) (ok_mono (ok_loopM' (fun d s => s = 2 ^ d.length) rfl fun d s y hd hs => ?_) fun z hz => by rw [rng_length] at hz; exact hz) fun z hz => ?_
  · have := pre_rng hd
    have hp : (2 : Int) ^ d.length ≤ 2 ^ 9 := by
      have : d.length = 0 ∨ d.length = 1 ∨ d.length = 2 ∨ d.length = 3 ∨ d.length = 4 ∨ d.length = 5 ∨ d.length = 6 ∨ d.length = 7 ∨ d.length = 8 := by omega
      rcases this with e | e | e | e | e | e | e | e | e <;> rw [e] <;> decide
    have hp0 : (0 : Int) < 2 ^ d.length := Int.pow_pos (by decide)
    rw [hs]
    refine ok_g (cMul_of (sm_of (by decide +kernel) (by decide +kernel)) (sm_of (by omega) (by omega))) (ok_some ?_)
    rw [List.length_append, List.length_singleton, Int.pow_succ, Int.mul_comm]
  subst hz
  refine ok_g (sm62 (by omega) (by omega)) ?_
  refine ok_bind (Q := fun r => (r.1.length : Int) = m ∧ (∀ x ∈ r.1, NumOk f x) ∧ Pool (b + 3 * m) r.2) (ok_mono (ok_loopM' (fun d r => r.1.length = d.length ∧ (∀ x ∈ r.1, NumOk f x) ∧ Pool (b + 3 * d.length) r.2) ⟨rfl, fun x h => by simp at h, by simpa using h⟩ fun d r y hd ⟨i1, i2, i3⟩ => ?_) fun r ⟨j1, j2, j3⟩ => ⟨by rw [j1, rng_length]; omega, j2, by rw [rng_length] at j3; rw [show b + 3 * m = b + 3 * (m.toNat : Int) by omega]; exact j3⟩) fun r ⟨j1, j2, j3⟩ => ?_
  · have := pre_rng hd
    refine ok_bind (draw_ok i3 (by omega) (by omega) (by omega)) fun r1 ⟨a1, s1⟩ => ?_
    refine ok_bind (draw_ok s1 (by omega) (by omega) (by omega)) fun r2 ⟨a2, s2⟩ => ?_
    refine ok_bind (draw_ok s2 (by omega) (by decide) (by decide)) fun r3 ⟨a3, s3⟩ => ?_
    refine ok_bind (ok_at a3.1 (by simp only [List.length_cons, List.length_nil]; omega)) fun x hx => ?_
    refine ok_g (sz_lt' (by omega)) (ok_some ⟨?_, fun z hz => ?_, ?_⟩)
    · rw [List.length_append, List.length_append, i1]; rfl
    · rcases List.mem_append.mp hz with hz | hz
      · exact i2 z hz
      · have : z = x := by simpa using hz
        subst this
        simp only [List.mem_cons, List.not_mem_nil, or_false] at hx
        unfold NumOk
        omega
    · rw [List.length_append, List.length_singleton]
      have : b + 3 * ((d.length + 1 : Nat) : Int) = b + 3 * (d.length : Int) + 1 + 1 + 1 := by omega
      rw [this]
      exact s3
  · refine ok_some ⟨j1, j2, ?_⟩
    obtain ⟨l, q, k, e, x1, x2, x3, x4, x5⟩ := j3
    exact ⟨l, q, k, e, x1, x2, x3, x4, by omega⟩
theorem fsz_eq (f : T3 Int Str Int) : p_frame_size f = some (fsz f) := by unfold p_frame_size fsz; rfl
theorem shape_eq {f : T3 Int Str Int} (h : ShpOk f) : p_require_shape f = some () := by
  have hf : p_shape_fault f = some (PyData.tuple []) := by
    have q1 := h.b1; have q2 := h.b9; have q3 := h.p; have q4 := h.t
    have q5 : 1 ≤ f.c ∧ f.c ≤ 2 := by omega
    unfold p_shape_fault p_is_integer
    simp only [Option.bind_some]
    simp [q1, q2, q5]
    have q3' : f.b = Str.ofString "none" ∨ f.b = Str.ofString "even" ∨ f.b = Str.ofString "odd" := by simpa using q3
    intro a b c
    rcases q3' with z | z | z <;> contradiction
  unfold p_require_shape
  rw [hf]
  rfl
theorem signal_eq {xs : List Int} (h : Rises xs) (hl : xs.length ≤ 800) : p_require_signal xs 800 = some () := by
  have hf : p_signal_fault xs 800 = some (PyData.tuple []) := by
    refine ok_eq ?_
    unfold p_signal_fault
    rw [if_neg (by simp; omega)]
    refine ok_bind (Q := fun w => w = .go ()) (ok_all fun y hy => ?_) fun w hw => ?_
    · obtain ⟨i, hi⟩ := List.getElem?_of_mem hy
      rw [enumL_get] at hi
      unfold p_is_integer
      rw [Option.bind_some]
      refine ok_bind (Q := fun c => c = false) ?_ fun c hc => ?_
      · rw [if_neg (by decide)]
        refine ok_bind (Q := fun c => c = false) (ok_if (fun hq => ?_) fun hq => ok_some rfl) fun c hc => ok_some hc
        have hq := of_decide_eq_true hq
        obtain ⟨x, hx, rfl⟩ := Option.map_eq_some_iff.mp hi
        obtain ⟨k1, k2⟩ := List.getElem?_eq_some_iff.mp hx
        simp only at hq
        have ha : L2.atI xs (((0 : Nat) : Int) + (i : Int) - 1) = some (xs[i - 1]) := by
          unfold L2.atI ixN
          rw [if_pos (by omega), if_pos (by omega)]
          rw [show (((0 : Nat) : Int) + (i : Int) - 1).toNat = i - 1 by omega]
          simp
        rw [ha, Option.bind_some]
        have := List.pairwise_iff_getElem.mp h (i - 1) i (by omega) k1 (by omega)
        refine ok_some (decide_eq_false ?_)
        simp only [k2] at this
        show ¬ x ≤ _
        omega
      · subst hc
        exact ok_some rfl
    · subst hw
      exact ok_some rfl
  unfold p_require_signal
  rw [hf]
  rfl
theorem length_eq {x : Int} (h : 1 ≤ x) : p_require_length x = some () := by
  unfold p_require_length p_is_at_least p_is_integer
  simp [h]
structure SendOk (f : T3 Int Str Int) (L : Int) (F : List (T2 Int Int)) : Prop where
  n60 : F.length ≤ 60
  num : ∀ p ∈ F, NumOk f p.b
  gap : ∀ (i : Nat) (p q : T2 Int Int), F[i]? = some p → F[i + 1]? = some q → p.a + (1 + f.a + pb f + f.c) * L ≤ q.a
theorem fsize1_eq (f : T3 Int Str Int) : p_frame_size f = some (1 + f.a + pb f + f.c) := by
  unfold p_frame_size pb
  by_cases h : f.b = ("none" : Str) <;> simp [h]
theorem pb01 (f : T3 Int Str Int) : pb f = 0 ∨ pb f = 1 := by unfold pb; split <;> simp
def mkS (o L : Int) (y : T2 Int Int) : T2 Int Int := ⟨o + y.a * L, y.b⟩
def stp1 (f : T3 Int Str Int) (L : Int) (p : T2 Int Int) : List (T2 Int Int) := (enumL ((0 : Nat) : Int) (frm f p.b)).map (mkS p.a L)
def levs (f : T3 Int Str Int) (xs : List Int) : List Int := xs.flatMap (frm f)
def accT : Int → List Int → List Int
  | _, [] => []
  | t, l :: ls => t :: accT (t + l) ls
theorem neg_at {xs : List Int} {x : Int} : L2.atI (xs ++ [x]) (-1) = some x := by
  unfold L2.atI ixN
  rw [if_neg (by omega), if_pos (by rw [List.length_append, List.length_singleton]; omega), Option.bind_some]
  rw [show ((-1 : Int) + ((xs ++ [x]).length : Int)).toNat = xs.length by rw [List.length_append, List.length_singleton]; omega]
  simp
def sz (f : T3 Int Str Int) : Int := 1 + f.a + pb f + f.c
def stp (f : T3 Int Str Int) : Int := 1 + f.a + pb f
theorem pb_eq (f : T3 Int Str Int) : (if (!decide (f.b = ("none" : Str))) = true then 1 else 0 : Int) = pb f := by
  unfold pb
  by_cases h : f.b = ("none" : Str) <;> simp [h]
theorem size_eq (f : T3 Int Str Int) : p__law_size f = some (sz f) := by unfold p__law_size sz; rw [pb_eq]
theorem fsize_eq (f : T3 Int Str Int) : p_frame_size f = some (sz f) := by unfold p_frame_size sz; rw [pb_eq]
theorem ranges {f : T3 Int Str Int} (h : ShpOk f) : 2 ≤ stp f ∧ stp f ≤ 11 ∧ stp f < sz f ∧ sz f ≤ 13 ∧ sz f = stp f + f.c := by
  have := h.b1; have := h.b9; have := h.t; have := pb01 f
  unfold sz stp
  omega
def rows (f : T3 Int Str Int) : List (T3 Int Int Int) := ((rngL 0 1 (stp f).toNat).map fun y => (⟨y, y, y + 1⟩ : T3 Int Int Int)) ++ ((rngL (stp f) 1 (sz f - stp f).toNat).map fun y => (⟨y, stp f, sz f⟩ : T3 Int Int Int))
def low (f : T3 Int Str Int) (r : T3 Int Int Int) : Int := max (r.a * (r.b + 1)) (-(-(r.a * (r.b + r.c * (sz f - 1) + 1)) / sz f))
def hgh (f : T3 Int Str Int) (r : T3 Int Int Int) : Int := r.a * (r.b + r.c * stp f) / stp f
def rlo (r : T3 Int Int Int) (x : T3 Int Int Int) : Int := -(-(r.a * (r.b + r.c * x.a) + r.a) / x.c)
def rhi (r : T3 Int Int Int) (x : T3 Int Int Int) : Int := r.a * (r.b + r.c * x.a) / x.b
def rowOk (r : T3 Int Int Int) (x o : Int) (y : T3 Int Int Int) : Bool := decide (x * y.b ≤ o + r.a * (r.b + r.c * y.a)) && decide (o + r.a * (r.b + r.c * y.a) < x * y.c)
def lx (lv : List Int) (k : Nat) : Int := (lv[k]?).getD 1
def moreL (f : T3 Int Str Int) (lv : List Int) : List Int := lv ++ List.replicate (2 * fsz f).toNat 1
def resM (f : T3 Int Str Int) (lv : List Int) (k : Nat) (s : MS) : List (T3 Int Str Int) := (runM f (lx lv) k (lv.length + (fsz f).toNat - k) s).1
theorem pool_up {b c : Int} {a : List Int} (h : Pool b a) (hc : b ≤ c) : Pool c a := by
  obtain ⟨l, q, k, e, x1, x2, x3, x4, x5⟩ := h
  exact ⟨l, q, k, e, x1, x2, x3, x4, by omega⟩
def ValOk (d : D) : Prop := Fit d 500 4 ∧ ∀ ds, d = .list ds → ds.length ≤ 1000
def rdC (s r p g : D) : Ck := (c1 "InvalidShape" (sfl s)).or ((c1 "InvalidReceiver" (rcf r)).or ((c0 "InvalidPhase" (isI p)).or (c1 "InvalidSignal" (sgf 800 g))))
def Len (d : D) : Prop := ∀ ds, d = .list ds → ds.length ≤ 1000000
end P
namespace P
open PySem PySem.Spec PyProof.Rows L2 E
theorem atS0 {α : Type} {x : α} {r : List α} : L2.atI (x :: r) (0 : Int) = some x := by
  unfold L2.atI ixN
  simp
theorem app_len (a b : Str) : (a ++ b).length = a.length + b.length := by
  show (a.cps ++ b.cps).size = a.cps.size + b.cps.size
  exact Array.size_append
theorem empty_app (a : Str) : Str.empty ++ a = a := by
  show (⟨#[] ++ a.cps⟩ : Str) = a
  rw [Array.empty_append]
def ChOk (s : Str) : Prop := ∀ c ∈ s.cps.toList, c < 16 ^ 8
theorem ch_app {a b : Str} (ha : ChOk a) (hb : ChOk b) : ChOk (a ++ b) := fun c hc => by
  have hc : c ∈ (a.cps ++ b.cps).toList := hc
  rw [Array.toList_append] at hc
  rcases List.mem_append.mp hc with h | h
  · exact ha c h
  · exact hb c h
theorem ch_of (s : String) : ChOk (Str.ofString s) := fun c hc => by
  rw [Str.ofString_eq_toList] at hc
  have hc : c ∈ s.toList.map Char.toNat := hc
  obtain ⟨x, _, rfl⟩ := List.mem_map.mp hc
  have := UInt32.toNat_lt x.val
  show x.val.toNat < _
  omega
theorem join_app (sep x y : Str) (r : List Str) : Txt.join sep (x :: y :: r) = x ++ sep ++ Txt.join sep (y :: r) := by
  rw [TL.join_eq, TL.join_eq]
  rfl
theorem join_one (sep x : Str) : Txt.join sep [x] = x := by rw [TL.join_eq]; rfl
theorem join_nil (sep : Str) : Txt.join sep [] = Str.empty := by rw [TL.join_eq]; rfl
theorem join_ch {sep : Str} (hs : ChOk sep) : ∀ ys : List Str, (∀ y ∈ ys, ChOk y) → ChOk (Txt.join sep ys)
  | [], _ => by rw [join_nil]; intro c hc; cases hc
  | [x], h => by rw [join_one]; exact h x List.mem_cons_self
  | x :: y :: r, h => by
    rw [join_app]
    exact ch_app (ch_app (h x List.mem_cons_self) hs) (join_ch hs (y :: r) fun z hz => h z (List.mem_cons_of_mem _ hz))
theorem join_len {sep : Str} {k : Nat} (hs : sep.length ≤ 1) : ∀ ys : List Str, (∀ y ∈ ys, y.length ≤ k) → (Txt.join sep ys).length ≤ (k + 1) * ys.length
  | [], _ => by rw [join_nil]; exact Nat.zero_le _
  | [x], h => by
    rw [join_one]
    have := h x List.mem_cons_self
    simp only [List.length_cons, List.length_nil]
    omega
  | x :: y :: r, h => by
    rw [join_app, app_len, app_len]
    have h1 := h x List.mem_cons_self
    have h2 := join_len (k := k) hs (y :: r) fun z hz => h z (List.mem_cons_of_mem _ hz)
    have e : (x :: y :: r).length = (y :: r).length + 1 := rfl
    rw [e, Nat.mul_add]
    omega
theorem sum_len {k : Nat} : ∀ ys : List Str, (∀ y ∈ ys, y.length ≤ k) → (ys.map (·.length)).sum ≤ k * ys.length
  | [], _ => Nat.zero_le _
  | x :: r, h => by
    have h1 := h x List.mem_cons_self
    have h2 := sum_len (k := k) r fun z hz => h z (List.mem_cons_of_mem _ hz)
    rw [List.map_cons, List.sum_cons, List.length_cons, Nat.mul_add]
    omega
theorem shw_str {s : Str} (h : ChOk s) (hl : s.length ≤ 1000000) : shwOk (PyData.str s) := by
  refine ⟨rfl, Nat.zero_le _, ?_⟩
  have := StrLaws.reprText_len s h
  show (reprText s).length ≤ sizeLine
  refine Nat.le_trans this ?_
  exact Nat.le_trans (show 10 * s.length + 2 ≤ 10000002 by omega) (by decide)
def tI (i : Int) : Str := Str.ofString (toString i)
def colon : Str := (":" : Str)
theorem tI_len {i : Int} (h0 : -(10 ^ 40) < i) (h1 : i < 10 ^ 40) : (tI i).length ≤ 41 ∧ i.natAbs.log2 < 1920 := by
  have h : i.natAbs < 10 ^ 40 := by omega
  refine ⟨?_, ?_⟩
  · unfold tI
    rw [PySem.ofString_length]
    exact int_text_length_le10 (by decide) h
  · have s : Sm i := sm_of (by omega) (by omega)
    have := sm_log s
    omega
theorem colon_len : colon.length = 1 := rfl
theorem big {n : Nat} (h : n ≤ 1000) : n ≤ sizeLine := Nat.le_trans h (by decide)
/-! ### the text of an integer, and back -/
theorem tl_nat (n : Nat) : TL.tl (tI (n : Int)) = TL.numL n := TL.tl_num n
theorem tl_neg (m : Nat) : TL.tl (tI (Int.negSucc m)) = 45 :: TL.numL (m + 1) := by
  have h := TL.tl_num (m + 1)
  rw [TL.tl_ofString] at h
  unfold tI
  rw [TL.tl_ofString, ← h]
  show ("-" ++ toString (m + 1)).toList.map Char.toNat = _
  rw [String.toList_append, List.map_append]
  rfl
theorem tl_app (a b : Str) : TL.tl (a ++ b) = TL.tl a ++ TL.tl b := TL.tl_append a b
theorem eq_tl {a b : Str} : a = b ↔ TL.tl a = TL.tl b := ⟨fun h => by rw [h], fun h => TL.ext_tl h⟩
theorem cut1 {z : Str} {c : Nat} {r : List Nat} (h : TL.tl z = c :: r) : L2.cutS z none (some (1 : Int)) = chS c := by
  have hl : z.length = r.length + 1 := by rw [TL.len_tl, h]; rfl
  have h' : z.cps.toList = c :: r := h
  have e1 : HT.sIx (r.length + 1) (r.length + 1) (some (1 : Int)) = 1 := by
    rw [show (1 : Int) = ((1 : Nat) : Int) by rfl, HT.sIx_nat]; omega
  unfold L2.cutS
  rw [hl, h', HT.sIx_none, e1]
  rfl
theorem cut2 {z : Str} {c : Nat} {r : List Nat} (h : TL.tl z = c :: r) : L2.cutS z (some (1 : Int)) none = ⟨r.toArray⟩ := by
  have hl : z.length = r.length + 1 := by rw [TL.len_tl, h]; rfl
  have h' : z.cps.toList = c :: r := h
  have e1 : HT.sIx (r.length + 1) 0 (some (1 : Int)) = 1 := by
    rw [show (1 : Int) = ((1 : Nat) : Int) by rfl, HT.sIx_nat]; omega
  unfold L2.cutS
  rw [hl, h', HT.sIx_none, e1]
  simp
theorem sAt_0 {z : Str} {c : Nat} {r : List Nat} (h : TL.tl z = c :: r) : sAt z (0 : Int) = some (chS c) := by
  have h' : z.cps.toList = c :: r := h
  unfold sAt
  rw [h', atS0]
  rfl
theorem ch_eq {c d : Nat} : chS c = chS d ↔ c = d := by
  refine ⟨fun h => ?_, fun h => by rw [h]⟩
  have := eq_tl.mp h
  have h2 : [c] = [d] := this
  simpa using h2
theorem numL_head : ∀ n : Nat, 1 ≤ n → ∀ {c r}, TL.numL n = c :: r → c ≠ 48 := by
  intro n
  induction n using Nat.strongRecOn with
  | _ n ih =>
    intro hn c r h
    by_cases hs : n < 10
    · rw [TL.numL_lt hs] at h
      simp only [List.cons.injEq] at h
      omega
    · rw [TL.numL_step (by omega)] at h
      cases e : TL.numL (n / 10) with
      | nil => exact absurd e (TL.numL_ne _)
      | cons d q =>
        rw [e, List.cons_append, List.cons.injEq] at h
        rw [← h.1]
        exact ih (n / 10) (by omega) (by omega) e
theorem numL_cons (n : Nat) : ∃ c r, TL.numL n = c :: r ∧ 48 ≤ c ∧ c ≤ 57 := by
  cases e : TL.numL n with
  | nil => exact absurd e (TL.numL_ne _)
  | cons d q =>
    have := TL.numL_digits n d (by rw [e]; exact List.mem_cons_self)
    exact ⟨d, q, rfl, this.1, this.2⟩
theorem dig_in {c : Nat} (h1 : 48 ≤ c) (h2 : c ≤ 57) : inOne (chS c) ("0123456789" : Str) = some true := by
  show some (decide (c ∈ ("0123456789" : Str).cps.toList)) = some true
  have e : ("0123456789" : Str).cps.toList = [48, 49, 50, 51, 52, 53, 54, 55, 56, 57] := by decide +kernel
  rw [e]
  have : c ∈ [48, 49, 50, 51, 52, 53, 54, 55, 56, 57] := by
    simp only [List.mem_cons, List.not_mem_nil, or_false]
    omega
  rw [decide_eq_true this]
theorem digs_all {v : Str} {n : Nat} (h : TL.tl v = TL.numL n) : compB (fun (y7 : Str) => ((inOne y7 ("0123456789" : Str)).bind fun i8 => (some [(i8)]))) (sgns v) = some (List.replicate (TL.numL n).length true) := by
  have e : sgns v = (TL.numL n).map chS := by unfold sgns; rw [show v.cps.toList = TL.numL n from h]
  have hd := TL.numL_digits n
  rw [e]
  generalize TL.numL n = l at hd
  clear h e
  induction l with
  | nil => rfl
  | cons c l ih =>
    have hc := hd c List.mem_cons_self
    rw [List.map_cons]
    unfold compB
    rw [dig_in hc.1 hc.2, Option.bind_some, Option.bind_some, ih fun d hd' => hd d (List.mem_cons_of_mem _ hd')]
    rfl
theorem all_rep (k : Nat) : (List.replicate k true).all id = true := by
  induction k with
  | zero => rfl
  | succ k ih => rw [List.replicate_succ, List.all_cons, ih]; rfl
theorem int_of {i : Int} (h0 : -(10 ^ 30) < i) (h1 : i < 10 ^ 30) : p_integer_of (tI i) = some (some i) := by
  have lz : (1000 : Nat) ≤ sizeLine := by decide
  have hm : ("-" : Str) = chS 45 := by decide +kernel
  have h0' : ("0" : Str) = chS 48 := by decide +kernel
  have L := (tI_len (i := i) (by omega) (by omega)).1
  -- the digits behind the sign
  have key : ∃ (v : Str) (n : Nat), n = i.natAbs ∧ TL.tl v = TL.numL n ∧ (if (decide ((L2.cutS (tI i) none (some (1 : Int))) = ("-" : Str))) = true then (if (tI i).length ≤ sizeLine then (some (L2.cutS (tI i) (some (1 : Int)) none)) else none) else (some (tI i))) = some v ∧ PySem.intText? (tI i) = some i ∧ (n = 0 → tI i = ("0" : Str)) := by
    cases i with
    | ofNat n =>
      have ht : TL.tl (tI (Int.ofNat n)) = TL.numL n := tl_nat n
      obtain ⟨c, r, e, c1, c2⟩ := numL_cons n
      refine ⟨tI (Int.ofNat n), n, rfl, ht, ?_, ?_, fun hn => ?_⟩
      · rw [cut1 (ht.trans e), hm, decide_eq_false (fun z => by have := ch_eq.mp z; omega)]
        rfl
      · exact TL.int_num (by rw [← ht, ← TL.len_tl]; omega)
      · subst hn; decide +kernel
    | negSucc m =>
      have ht : TL.tl (tI (Int.negSucc m)) = 45 :: TL.numL (m + 1) := tl_neg m
      refine ⟨⟨(TL.numL (m + 1)).toArray⟩, m + 1, rfl, TL.tl_mk _, ?_, ?_, fun hn => by omega⟩
      · rw [cut1 ht, hm, decide_eq_true rfl, if_pos rfl, if_pos (by omega), cut2 ht]
      · have q := PySem.intText_neg (x := tI (Int.negSucc m)) (cs := TL.numL (m + 1)) ht (TL.numL_digits _) (TL.numL_ne _) (by omega)
        rw [q, TL.numL_val]
        congr 1
  obtain ⟨v, n, hn, hv, k1, k2, k3⟩ := key
  have hn30 : n < 10 ^ 30 := by omega
  have hl := TL.numL_len (k := 30) (by decide) hn30
  have hvl : v.length = (TL.numL n).length := by rw [TL.len_tl, hv]
  obtain ⟨c, r, e, c1, c2⟩ := numL_cons n
  have hpos : 1 ≤ (TL.numL n).length := by rw [e, List.length_cons]; omega
  unfold p_integer_of
  rw [if_pos (by omega), k1, Option.bind_some, if_pos (by omega)]
  have d1 : decide ((1 : Int) ≤ (v.length : Int)) = true := decide_eq_true (by omega)
  have d2 : decide ((v.length : Int) ≤ (30 : Int)) = true := decide_eq_true (by omega)
  rw [d1, d2, digs_all hv]
  simp only [Bool.and_self, Bool.not_true, Bool.false_eq_true, if_false, Option.bind_some, List.length_replicate, all_rep]
  rw [if_pos (by omega)]
  simp only [Option.bind_some, Bool.false_eq_true, if_false]
  rw [if_pos (by omega), sAt_0 (hv.trans e), Option.bind_some, h0']
  have d3 : ((decide (chS c = chS 48)) && (!decide (tI i = chS 48))) = false := by
    by_cases hz : n = 0
    · have := k3 hz
      rw [h0'] at this
      rw [this]
      simp
    · have := numL_head n (by omega) e
      rw [decide_eq_false (fun z => this (ch_eq.mp z))]
      rfl
  rw [d3, if_neg Bool.false_ne_true, if_pos (by omega), k2]
  rfl
end P
namespace P
open PySem PySem.Spec PyProof.Rows L2 E
/-! k68: signals written and read -/
theorem tI_free {i : Int} {s : Nat} (h : s = 32 ∨ s = 58) : s ∉ TL.tl (tI i) := by
  cases i with
  | ofNat n =>
    have ht : TL.tl (tI (Int.ofNat n)) = TL.numL n := tl_nat n
    rw [ht]
    exact TL.numL_free (by omega)
  | negSucc m =>
    rw [tl_neg]
    intro hm
    rcases List.mem_cons.mp hm with e | e
    · omega
    · exact TL.numL_free (s := s) (by omega) e
theorem tI_cons (i : Int) : ∃ c r, TL.tl (tI i) = c :: r := by
  cases i with
  | ofNat n =>
    obtain ⟨c, r, e, _⟩ := numL_cons n
    exact ⟨c, r, (tl_nat n).trans e⟩
  | negSucc m => exact ⟨_, _, tl_neg m⟩
theorem tI_len60 {i : Int} (h0 : -(10 ^ 60) < i) (h1 : i < 10 ^ 60) : (tI i).length ≤ 61 ∧ i.natAbs.log2 < 1920 := by
  have h : i.natAbs < 10 ^ 60 := by omega
  refine ⟨?_, ?_⟩
  · unfold tI
    rw [PySem.ofString_length]
    exact int_text_length_le10 (by decide) h
  · have s : Sm i := sm_of (by omega) (by omega)
    have := sm_log s
    omega
def sgw (xs : List Int) : Str := Txt.join (" " : Str) (xs.map tI)
theorem app_assoc (a b c : Str) : a ++ b ++ c = a ++ (b ++ c) := TL.ext_tl (by rw [tl_app, tl_app, tl_app, tl_app, List.append_assoc])
theorem join_snoc (sep : Str) : ∀ (ys : List Str) (y : Str), ys ≠ [] → Txt.join sep (ys ++ [y]) = Txt.join sep ys ++ sep ++ y
  | [], _, h => absurd rfl h
  | [x], y, _ => by
    show Txt.join sep (x :: y :: []) = _
    rw [join_app, join_one, join_one]
  | x :: z :: r, y, _ => by
    show Txt.join sep (x :: z :: (r ++ [y])) = _
    rw [join_app, join_app]
    have := join_snoc sep (z :: r) y (by simp)
    rw [List.cons_append] at this
    rw [this, ← app_assoc, ← app_assoc]
theorem enum_loop {σ α τ : Type} {step : σ → T2 Int τ → Option σ} {F : List α → σ} {g : α → τ} (all : List α) (hs : ∀ ds x, ds ++ [x] <+: all → step (F ds) ⟨((ds.length : Nat) : Int), g x⟩ = some (F (ds ++ [x]))) : ∀ (xs ds : List α), ds ++ xs = all → loopM step (enumL ((ds.length : Nat) : Int) (xs.map g)) (F ds) = some (F all)
  | [], ds, e => by
    rw [List.append_nil] at e
    subst e
    rfl
  | x :: xs, ds, e => by
    show (step (F ds) ⟨((ds.length : Nat) : Int), g x⟩).bind (fun z => loopM step (enumL (((ds.length : Nat) : Int) + 1) (xs.map g)) z) = _
    have e2 : ds ++ [x] ++ xs = all := by rw [List.append_assoc]; exact e
    rw [hs ds x ⟨xs, e2⟩, Option.bind_some]
    have := enum_loop all hs xs (ds ++ [x]) e2
    rw [List.length_append, List.length_singleton] at this
    push_cast at this
    exact this
theorem enum_all {σ α τ : Type} {step : σ → T2 Int τ → Option σ} {F : List α → σ} {g : α → τ} (all : List α) (hs : ∀ ds x, ds ++ [x] <+: all → step (F ds) ⟨((ds.length : Nat) : Int), g x⟩ = some (F (ds ++ [x]))) : loopM step (enumL ((0 : Nat) : Int) (all.map g)) (F []) = some (F all) := enum_loop all hs all [] rfl
theorem tIs_len {xs : List Int} (h : ∀ x ∈ xs, -(10 ^ 60) < x ∧ x < 10 ^ 60) : ∀ y ∈ xs.map tI, y.length ≤ 61 := fun y hy => by
  obtain ⟨x, hx, rfl⟩ := List.mem_map.mp hy
  exact (tI_len60 (h x hx).1 (h x hx).2).1
theorem sgw_len {xs : List Int} (h : ∀ x ∈ xs, -(10 ^ 60) < x ∧ x < 10 ^ 60) : (sgw xs).length ≤ 62 * xs.length := by
  have := join_len (sep := (" " : Str)) (k := 61) (by decide) (xs.map tI) (tIs_len h)
  rw [List.length_map] at this
  exact this
theorem sgw_ch (xs : List Int) : ChOk (sgw xs) := join_ch (ch_of _) _ fun y hy => by
  obtain ⟨x, _, rfl⟩ := List.mem_map.mp hy
  exact ch_of _
theorem comp_tI {xs : List Int} (h : ∀ x ∈ xs, -(10 ^ 60) < x ∧ x < 10 ^ 60) (hl : xs.length ≤ 900) {g : Int → Option (List Str)} (hg : ∀ x ∈ xs, g x = some [tI x]) : (compB g xs).bind (fun zs4 => if zs4.length ≤ sizeLine then if ((zs4).map (·.length)).sum + (zs4).length * ((" " : Str)).length ≤ 16777216 then some (Txt.join (" " : Str) zs4) else none else none) = some (sgw xs) := by
  rw [compB_eq (f := fun x => [tI x]) hg, Option.bind_some, ← List.map_eq_flatMap]
  have sl := sum_len (k := 61) (xs.map tI) (tIs_len h)
  have s1 : (" " : Str).length = 1 := rfl
  rw [List.length_map] at sl
  rw [if_pos (big (by rw [List.length_map]; omega)), if_pos (by rw [List.length_map, s1]; omega)]
  rfl
theorem format_eq {xs : List Int} (h : ∀ x ∈ xs, -(10 ^ 60) < x ∧ x < 10 ^ 60) (hl : xs.length ≤ 900) : p_format_signal xs = some (sgw xs) := by
  unfold p_format_signal
  exact comp_tI h hl fun x hx => if_pos (tI_len60 (h x hx).1 (h x hx).2).2
structure SgT (xs : List Int) : Prop where
  ln : xs.length ≤ 800
  as : xs.Pairwise (· < ·)
  bd : ∀ x ∈ xs, -(10 ^ 30) < x ∧ x < 10 ^ 30
theorem SgT.bd60 {xs : List Int} (h : SgT xs) : ∀ x ∈ xs, -(10 ^ 60) < x ∧ x < 10 ^ 60 := fun x hx => by have := h.bd x hx; omega
theorem sgw_nil : sgw [] = ("" : Str) := by decide +kernel
theorem words_join {ps : List Str} (hne : ∀ p ∈ ps, p.length ≠ 0) (hf : ∀ p ∈ ps, (32 : Nat) ∉ TL.tl p) (hl : (Txt.join (" " : Str) ps).length ≤ 100000) : p_words_of (Txt.join (" " : Str) ps) = some ps := by
  unfold p_words_of
  cases ps with
  | nil =>
    have e : Txt.join (" " : Str) [] = ("" : Str) := by rw [join_nil]; decide +kernel
    rw [e, decide_eq_true rfl]
    rfl
  | cons p r =>
    have h0 : (Txt.join (" " : Str) (p :: r)).length ≠ 0 := by
      have := hne p List.mem_cons_self
      cases r with
      | nil => rw [join_one]; exact this
      | cons q r => rw [join_app, app_len, app_len]; omega
    rw [decide_eq_false (fun z => h0 (by rw [z]; rfl)), if_neg Bool.false_ne_true, if_pos ⟨by decide, Nat.le_trans (show _ ≤ 100002 by omega) (by decide)⟩]
    rw [TL.split_join (s := 32) (S := []) (by decide +kernel) (by decide +kernel) (by simp) hf]
theorem words_sgw {xs : List Int} (h : SgT xs) : p_words_of (sgw xs) = some (xs.map tI) := by
  refine words_join (fun p hp => ?_) (fun p hp => ?_) ?_
  · obtain ⟨x, _, rfl⟩ := List.mem_map.mp hp
    obtain ⟨c, r, e⟩ := tI_cons x
    rw [TL.len_tl, e, List.length_cons]
    omega
  · obtain ⟨x, _, rfl⟩ := List.mem_map.mp hp
    exact tI_free (.inl rfl)
  · have := sgw_len h.bd60
    have := h.ln
    show (sgw xs).length ≤ _
    omega
theorem parse_eq {xs : List Int} (h : SgT xs) : p_parse_signal (sgw xs) = some xs := by
  have hl := h.ln
  have lz : (1000 : Nat) ≤ sizeLine := by decide
  unfold p_parse_signal
  have e1 : p_require_string (sgw xs) = some () := by unfold p_require_string; rfl
  rw [e1, Option.bind_some, words_sgw h, Option.bind_some]
  refine (congrArg (fun z => Option.bind z _) (enum_all (F := fun ds : List Int => ds) (g := tI) xs fun ds x hp => ?_)).trans ?_
  rotate_left
  · rfl
  · have hx : x ∈ xs := hp.subset (List.mem_append_right _ List.mem_cons_self)
    have hdl := hp.length_le
    rw [List.length_append, List.length_singleton] at hdl
    have hb := h.bd x hx
    show ((p_integer_of (tI x)).bind _) = _
    rw [int_of hb.1 hb.2]
    have hc : (if (decide ((800 : Int) ≤ ((ds.length : Nat) : Int))) = true then (some true) else ((if (!decide (ds = ([] : (List Int)))) = true then ((L2.atI ds (-(1 : Int))).bind fun x26 => (some (decide (x ≤ x26)))) else (some false)).bind fun c28 => (some c28))) = some false := by
      rw [decide_eq_false (by omega), if_neg Bool.false_ne_true]
      by_cases hd : ds = []
      · rw [decide_eq_true hd]; rfl
      · obtain ⟨i, y, rfl⟩ : ∃ i y, ds = i ++ [y] := ⟨_, _, (List.dropLast_concat_getLast hd).symm⟩
        rw [decide_eq_false hd]
        have hq := List.Pairwise.sublist hp.sublist h.as
        rw [List.pairwise_append] at hq
        have hlt := hq.2.2 y (List.mem_append_right _ List.mem_cons_self) x List.mem_cons_self
        simp only [Bool.not_false, if_true]
        rw [neg_at, Option.bind_some, decide_eq_false (by omega)]
        rfl
    simp only [Option.bind_some, Option.isNone_some, Bool.false_eq_true, if_false]
    rw [hc]
    simp only [Option.bind_some, Bool.false_eq_true, if_false, letP_def]
    rw [if_pos (by omega)]
theorem due_eq {xs : List Int} (h : SgT xs) {step : Str → T2 Int Int → Option Str} (hs : ∀ (s : Str) (i x : Int), s.length ≤ 100000 → i ≤ 800 → -(10 ^ 60) < x → x < 10 ^ 60 → step s ⟨i, x⟩ = some ((s ++ (if 0 < i then (" " : Str) else Str.empty)) ++ tI x)) : loopM step (enumL ((0 : Nat) : Int) xs) ("" : Str) = some (sgw xs) := by
  have hl := h.ln
  have q := enum_loop (step := step) (F := fun ds : List Int => sgw ds) (g := id) xs (fun ds x hp => ?_) xs [] rfl
  · rw [List.map_id] at q
    exact q
  · have hx : x ∈ xs := hp.subset (List.mem_append_right _ List.mem_cons_self)
    have hdl := hp.length_le
    rw [List.length_append, List.length_singleton] at hdl
    have hb := h.bd60 x hx
    have hsl := sgw_len (xs := ds) fun y hy => h.bd60 y (hp.subset (List.mem_append_left _ hy))
    show step (sgw ds) ⟨((ds.length : Nat) : Int), x⟩ = some (sgw (ds ++ [x]))
    rw [hs _ _ _ (by omega) (by omega) hb.1 hb.2]
    by_cases hd : ds = []
    · subst hd
      rw [if_neg (show ¬ (0 : Int) < ((([] : List Int).length : Nat) : Int) by decide), sgw_nil]
      have e0 : ("" : Str) = Str.empty := by decide +kernel
      rw [e0, empty_app, empty_app]
      show some (tI x) = some (Txt.join _ [tI x])
      rw [join_one]
    · have hpos : 0 < ds.length := List.length_pos_iff.mpr hd
      rw [if_pos (show (0 : Int) < ((ds.length : Nat) : Int) by omega)]
      unfold sgw
      rw [List.map_append, List.map_singleton, join_snoc _ _ _ (fun z => hd (List.map_eq_nil_iff.mp z))]
theorem sig_shw {xs : List Int} (h : SgT xs) : shwOk (PyData.str (sgw xs)) ∧ shwOk (enc xs : D) := by
  have := sgw_len h.bd60
  have hl := h.ln
  refine ⟨shw_str (sgw_ch xs) (by omega), shw_of (fit_list (fitl_map (f := fun x : Int => (enc x : D)) (k := 0) (p := 0) fun x hx => fit_int (sm_of (by have := (h.bd x hx).1; omega) (by have := (h.bd x hx).2; omega)))) (by omega) (by decide)⟩
theorem signal_right {xs : List Int} (h : SgT xs) : p__law_signal_right xs = some true := by
  have hl := h.ln
  have lz : (1000 : Nat) ≤ sizeLine := by decide
  obtain ⟨s1, s2⟩ := sig_shw h
  unfold p__law_signal_right
  simp only [letP_def]
  rw [due_eq h fun s i x hs hi h0 h1 => ?_]
  · rw [Option.bind_some, format_eq h.bd60 (by omega), Option.bind_some, if_pos s1, if_pos s1]
    simp only [decide_true, Bool.not_true, Bool.or_self, Bool.false_eq_true, if_false]
    rw [parse_eq h, Option.bind_some, if_pos s2, if_pos s2, decide_eq_true rfl]
    simp only [Bool.not_true, Bool.false_eq_true, if_false]
    rw [if_pos (show xs.length < sizeLine by omega), Option.bind_some, if_pos s2, if_pos s2, decide_eq_true rfl, if_pos rfl, Option.bind_some, decide_eq_true rfl]
    rfl
  · obtain ⟨l1, l2⟩ := tI_len60 h0 h1
    have hm : mulT (" " : Str) (if (decide ((0 : Int) < i)) = true then 1 else 0 : Int) = some (if 0 < i then (" " : Str) else Str.empty) := by
      by_cases c : 0 < i
      · rw [decide_eq_true c, if_pos c]; rfl
      · rw [decide_eq_false c, if_neg c]; rfl
    have hq : (if 0 < i then (" " : Str) else Str.empty).length ≤ 1 := by split <;> decide
    show (mulT (" " : Str) (if (decide ((0 : Int) < i)) = true then 1 else 0 : Int)).bind _ = _
    rw [hm, Option.bind_some]
    generalize (if 0 < i then (" " : Str) else Str.empty) = x9 at hq
    show (if s.length + x9.length ≤ sizeLine then if x.natAbs.log2 < 1920 then if (s ++ x9).length + (tI x).length ≤ sizeLine then some (s ++ x9 ++ tI x) else none else none else none) = _
    rw [if_pos (Nat.le_trans (show _ ≤ 100001 by omega) (by decide)), if_pos l2, if_pos (Nat.le_trans (show (s ++ x9).length + (tI x).length ≤ 100070 by rw [app_len]; omega) (by decide))]
end P
namespace P
open PySem PySem.Spec PyProof.Rows L2 E
/-! k68: sendings written and read -/
def wd (y : T2 Int Int) : Str := tI y.a ++ colon ++ tI y.b
def snw (F : List (T2 Int Int)) : Str := Txt.join (" " : Str) (F.map wd)
def oI (y : T2 Int Int) : T2 Int (Option Int) := ⟨y.a, some y.b⟩
structure EnT (f : T3 Int Str Int) (y : T2 Int Int) : Prop where
  a : -(10 ^ 30) < y.a ∧ y.a < 10 ^ 30
  b : NumOk f y.b
  b9 : 0 ≤ y.b ∧ y.b < 1000
theorem colon_tl : TL.tl colon = [58] := by decide +kernel
theorem wd_tl (y : T2 Int Int) : TL.tl (wd y) = TL.tl (tI y.a) ++ 58 :: TL.tl (tI y.b) := by
  unfold wd
  rw [tl_app, tl_app, colon_tl, List.append_assoc]
  rfl
theorem wd_len {y : T2 Int Int} (h0 : -(10 ^ 40) < y.a ∧ y.a < 10 ^ 40) (h1 : 0 ≤ y.b ∧ y.b < 1000) : (wd y).length ≤ 100 ∧ (wd y).length ≠ 0 := by
  have l1 := (tI_len h0.1 h0.2).1
  have l2 := (tI_len (i := y.b) (by omega) (by omega)).1
  have cl := colon_len
  unfold wd
  rw [app_len, app_len]
  omega
theorem wd_join (y : T2 Int Int) : wd y = Txt.join colon [tI y.a, tI y.b] := by rw [join_app, join_one]; rfl
theorem fits_some {f : T3 Int Str Int} (hf : ShpOk f) {x : Int} (h : NumOk f x) : p_fits_shape f (some x) = some true := by
  have h1 := hf.b1; have h9 := hf.b9
  unfold p_fits_shape
  have e1 : p_is_integer_1 (some x) = some true := by unfold p_is_integer_1; rfl
  have e2 : cShl (1 : Int) f.a := ⟨by omega, by have : (1 : Int).natAbs.log2 = 0 := by decide +kernel
                                                omega⟩
  rw [e1, Option.bind_some, if_pos rfl, Option.bind_some, if_pos e2, decide_eq_true h.1, decide_eq_true (show x < 1 * 2 ^ f.a.toNat by have := h.2; omega)]
  rfl
theorem item_eq {f : T3 Int Str Int} (hf : ShpOk f) {y : T2 Int Int} (h : EnT f y) : p_sending_item f (wd y) = some (some (oI y)) := by
  have l := wd_len (y := y) (by have := h.a; omega) h.b9
  have i1 := int_of h.a.1 h.a.2
  have i2 := int_of (i := y.b) (by have := h.b9; omega) (by have := h.b9; omega)
  unfold p_sending_item
  have es : Txt.split (wd y) (":" : Str) = [tI y.a, tI y.b] := by
    rw [wd_join]
    exact TL.split_join (y := colon) (s := 58) (S := []) colon_tl (by decide +kernel) (by simp) (fun p hp => by
      simp only [List.mem_cons, List.not_mem_nil, or_false] at hp
      rcases hp with rfl | rfl <;> exact tI_free (.inr rfl))
  rw [if_pos ⟨by decide, Nat.le_trans (show _ ≤ 102 by omega) (by decide)⟩, letP_def, es]
  show (if (!decide (((2 : Nat) : Int) = (2 : Int))) = true then _ else _) = _
  rw [decide_eq_true (by decide)]
  simp only [Bool.not_true, Bool.false_eq_true, if_false]
  rw [atS0, Option.bind_some, i1, Option.bind_some]
  have e1 : L2.atI [tI y.a, tI y.b] (1 : Int) = some (tI y.b) := rfl
  rw [e1, Option.bind_some, i2, Option.bind_some, fits_some hf h.b]
  rfl
structure SnT (s : T3 Int Str Int) (l : Int) (G : List (T2 Int Int)) : Prop where
  f : ShpOk s
  L : 1 ≤ l ∧ l ≤ 10 ^ 30
  ln : G.length ≤ 60
  en : ∀ y ∈ G, EnT s y
  gap : G.Pairwise fun p q => p.a + fsz s * l ≤ q.a
section
variable {f : T3 Int Str Int} {L : Int} {F : List (T2 Int Int)}
theorem snw_len (h : ∀ y ∈ F, EnT f y) : (snw F).length ≤ 101 * F.length := by
  have := join_len (sep := (" " : Str)) (k := 100) (by decide) (F.map wd) fun z hz => by
    obtain ⟨y, hy, rfl⟩ := List.mem_map.mp hz
    exact (wd_len (by have := (h y hy).a; omega) (h y hy).b9).1
  rw [List.length_map] at this
  exact this
theorem snw_ch (F : List (T2 Int Int)) : ChOk (snw F) := join_ch (ch_of _) _ fun y hy => by
  obtain ⟨x, _, rfl⟩ := List.mem_map.mp hy
  exact ch_app (ch_app (ch_of _) (ch_of _)) (ch_of _)
theorem words_snw (h : ∀ y ∈ F, EnT f y) (hl : F.length ≤ 60) : p_words_of (snw F) = some (F.map wd) := by
  refine words_join (fun p hp => ?_) (fun p hp => ?_) ?_
  · obtain ⟨y, hy, rfl⟩ := List.mem_map.mp hp
    exact (wd_len (by have := (h y hy).a; omega) (h y hy).b9).2
  · obtain ⟨y, hy, rfl⟩ := List.mem_map.mp hp
    rw [wd_tl]
    intro hm
    rcases List.mem_append.mp hm with e | e
    · exact tI_free (.inl rfl) e
    · rcases List.mem_cons.mp e with e | e
      · omega
      · exact tI_free (.inl rfl) e
  · have := snw_len h
    show (snw F).length ≤ _
    omega
theorem eqv_nil (ds : List (T2 Int (Option Int))) : PyData.eqv (enc ds : D) (enc ([] : List Int) : D) = decide (ds = []) := by
  cases ds with
  | nil =>
    show PyData.eqv (.list []) (.list []) = _
    rw [PyData.eqv]
    rfl
  | cons d ds =>
    show PyData.eqv (.list (enc d :: ds.map enc)) (.list []) = _
    rw [PyData.eqv]
    rfl
theorem psend_eq (h : SnT f L F) : p_parse_sending f L (snw F) = some (F.map oI) := by
  have hl := h.ln
  have lz : (1000 : Nat) ≤ sizeLine := by decide
  have hf := h.f
  have h1 := hf.b1; have h9 := hf.b9; have ht := hf.t
  have hsz : 1 ≤ fsz f ∧ fsz f ≤ 100 := by
    have e1 := fsz_eq f
    rw [fsize1_eq] at e1
    have e2 : 1 + f.a + pb f + f.c = fsz f := Option.some.inj e1
    have := pb01 f
    omega
  unfold p_parse_sending
  have e1 : p_require_string (snw F) = some () := by unfold p_require_string; rfl
  rw [shape_eq hf, Option.bind_some, length_eq h.L.1, Option.bind_some, e1, Option.bind_some, words_snw h.en hl, Option.bind_some]
  refine (congrArg (fun z => Option.bind z _) (enum_all (F := fun ds : List (T2 Int Int) => ds.map oI) (g := wd) F fun ds x hp => ?_)).trans ?_
  rotate_left
  · rfl
  · have hx : x ∈ F := hp.subset (List.mem_append_right _ List.mem_cons_self)
    have hdl := hp.length_le
    rw [List.length_append, List.length_singleton] at hdl
    show ((p_sending_item f (wd x)).bind _) = _
    rw [item_eq hf (h.en x hx), Option.bind_some]
    simp only [Option.isNone_some, Bool.false_or]
    rw [decide_eq_false (show ¬ (60 : Int) ≤ ((ds.length : Nat) : Int) by omega)]
    simp only [Bool.false_eq_true, if_false, Option.bind_some]
    rw [eqv_nil]
    by_cases hd : ds = []
    · subst hd
      rw [show (([] : List (T2 Int Int)).map oI) = [] by rfl, decide_eq_true rfl]
      simp only [Bool.not_true, Bool.false_eq_true, if_false, Option.bind_some, letP_def]
      rw [if_pos (show ([] : List (T2 Int (Option Int))).length < sizeLine from (by show 0 < sizeLine; omega))]
      rfl
    · obtain ⟨i, y, rfl⟩ : ∃ i y, ds = i ++ [y] := ⟨_, _, (List.dropLast_concat_getLast hd).symm⟩
      have hq := List.Pairwise.sublist hp.sublist h.gap
      rw [List.pairwise_append] at hq
      have hlt := hq.2.2 y (List.mem_append_right _ List.mem_cons_self) x List.mem_cons_self
      rw [decide_eq_false (fun z => hd (List.map_eq_nil_iff.mp z))]
      simp only [Bool.not_false, if_true]
      have ea : L2.atI ((i ++ [y]).map oI) (-(1 : Int)) = some (oI y) := by
        rw [List.map_append, List.map_singleton]
        unfold L2.atI ixN
        rw [if_neg (by omega), if_pos (by rw [List.length_append, List.length_singleton]; omega), Option.bind_some]
        rw [show ((-(1 : Int)) + ((i.map oI ++ [oI y]).length : Int)).toNat = (i.map oI).length by rw [List.length_append, List.length_singleton]; omega]
        simp
      rw [ea, Option.bind_some, fsz_eq, Option.bind_some, if_pos (cMul_of (sm_of (by omega) (by omega)) (sm_of (by have := h.L; omega) (by have := h.L; omega)))]
      have e5 : decide ((oI x).a < ((oI y).a + (fsz f * L))) = false := decide_eq_false (by
        show ¬ x.a < y.a + fsz f * L
        omega)
      rw [e5]
      simp only [Option.bind_some, Bool.false_eq_true, if_false, letP_def]
      rw [if_pos (by rw [List.length_map]; omega)]
      simp
theorem fsend_eq (h : ∀ y ∈ F, EnT f y) (hl : F.length ≤ 60) : p_format_sending F = some (snw F) := by
  unfold p_format_sending
  have s1 : (" " : Str).length = 1 := rfl
  rw [compB_eq (f := fun (y : T2 Int Int) => [wd y]) fun y hy => by
    have hy := h y hy
    have l1 := tI_len (i := y.a) (by have := hy.a; omega) (by have := hy.a; omega)
    have l2 := tI_len (i := y.b) (by have := hy.b9; omega) (by have := hy.b9; omega)
    have cl := colon_len
    have e1 : (tI y.a ++ colon).length = (tI y.a).length + colon.length := app_len _ _
    have e2 : (tI y.a ++ colon ++ tI y.b).length = (tI y.a ++ colon).length + (tI y.b).length := app_len _ _
    simp only [empty_app]
    exact ok_eq (ok_g l1.2 (ok_g l2.2 (ok_g (show (tI y.a).length ≤ sizeLine from big (by omega)) (ok_g (show (tI y.a ++ colon).length ≤ sizeLine from big (by omega)) (ok_g (show (tI y.a ++ colon ++ tI y.b).length ≤ sizeLine from big (by omega)) (ok_some rfl))))))]
  rw [Option.bind_some, ← List.map_eq_flatMap]
  have sl := sum_len (k := 100) (F.map wd) fun z hz => by
    obtain ⟨y, hy, rfl⟩ := List.mem_map.mp hz
    exact (wd_len (by have := (h y hy).a; omega) (h y hy).b9).1
  rw [List.length_map] at sl
  rw [if_pos (big (by rw [List.length_map]; omega)), if_pos (by rw [List.length_map, s1]; omega)]
  rfl
theorem enc_oI (F : List (T2 Int Int)) : (enc (F.map oI) : D) = enc F := by
  show PyData.list ((F.map oI).map enc) = PyData.list (F.map enc)
  rw [List.map_map]
  rfl
theorem send_shw (h : ∀ y ∈ F, EnT f y) (hl : F.length ≤ 60) : shwOk (PyData.str (snw F)) ∧ shwOk (enc F : D) := by
  have := snw_len h
  refine ⟨shw_str (snw_ch F) (by omega), shw_of (fit_list (fitl_map (f := fun x : T2 Int Int => (enc x : D)) (k := 2) (p := 1) fun x hx => fit_pair (sm_of (by have := (h x hx).a; omega) (by have := (h x hx).a; omega)) (sm_of (by have := (h x hx).b9; omega) (by have := (h x hx).b9; omega)))) (by omega) (by decide)⟩
end
end P
namespace P
open PySem PySem.Spec PyProof.Rows L2 E
/-! k68: draws; a sending judged -/
theorem sig68_ok {b m : Int} {a : List Int} (h : Pool b a) (hb : b < 2 ^ 50) (m0 : 0 ≤ m) (m1 : m ≤ 800) : Ok (p__law_signal a m) (fun r => (Rises r.1 ∧ ∀ x ∈ r.1, -(10 ^ 29) ≤ x ∧ x ≤ 10 ^ 29) ∧ (r.1.length : Int) = m ∧ Pool (b + 3000) r.2) := by
  unfold p__law_signal
  refine ok_bind (draw_ok h (by omega) (by decide) (by decide)) fun r1 ⟨h1, s1⟩ => ?_
  refine ok_bind (ok_at h1.1 (by simp only [List.length_cons, List.length_nil]; omega)) fun u hu => ?_
  refine ok_bind (draw_ok s1 (by omega) (by decide) (by decide)) fun r2 ⟨h2, s2⟩ => ?_
  refine ok_bind (ok_at h2.1 (by simp only [List.length_cons, List.length_nil]; omega)) fun v hv => ?_
  refine ok_bind (draw_ok s2 (by omega) (by decide) (by decide)) fun r3 ⟨h3, s3⟩ => ?_
  have hu : 1 ≤ u ∧ u ≤ 10 ^ 25 := by
    simp only [List.mem_cons, List.not_mem_nil, or_false] at hu
    rcases hu with rfl | rfl | rfl | rfl <;> decide +kernel
  have hv : -(10 ^ 29) ≤ v ∧ v ≤ 10 ^ 28 := by
    simp only [List.mem_cons, List.not_mem_nil, or_false] at hv
    rcases hv with rfl | rfl | rfl | rfl | rfl <;> decide +kernel
  rw [letP_def]
  refine ok_g (sm62 (by omega) (by omega)) ?_
  refine ok_bind (ok_loopM' (fun (d : List Int) (s : Int × List Int × List Int) => (s.2.1.length = d.length ∧ -(10 ^ 29) ≤ s.1 ∧ s.1 ≤ 10 ^ 28 + 50 + d.length * (10 ^ 25 + 1)) ∧ (Rises s.2.1 ∧ ∀ x ∈ s.2.1, x < s.1 ∧ -(10 ^ 29) ≤ x) ∧ Pool (b + 3 + 3 * d.length) s.2.2) ⟨⟨rfl, by show -(10 ^ 29) ≤ v + r3.1; omega, by show v + r3.1 ≤ _; simp; omega⟩, ⟨List.Pairwise.nil, fun x hx => by simp at hx⟩, by simpa using (show Pool (b + 3) r3.2 by rw [show b + 3 = b + 1 + 1 + 1 by omega]; exact s3)⟩ fun d s y hd ⟨⟨i1, i2, i3⟩, ⟨i4, i5⟩, i6⟩ => ?_) fun s ⟨⟨j1, j2, j3⟩, ⟨j4, j5⟩, j6⟩ => ?_
  · have hl := pre_rng hd
    refine ok_g (sz_lt' (by omega)) ?_
    rw [letP_def]
    refine ok_bind (draw_ok i6 (by omega) (by omega) (by omega)) fun r4 ⟨h4, s4⟩ => ?_
    refine ok_bind (draw_ok s4 (by omega) (by omega) (by omega)) fun r5 ⟨h5, s5⟩ => ?_
    refine ok_bind (draw_ok s5 (by omega) (by decide) (by decide)) fun r6 ⟨h6, s6⟩ => ?_
    refine ok_bind (ok_at h6.1 (by simp only [List.length_cons, List.length_nil]; omega)) fun z hz => ?_
    have hz : 0 ≤ z ∧ z < u := by
      simp only [List.mem_cons, List.not_mem_nil, or_false] at hz
      rcases hz with rfl | rfl | rfl <;> omega
    rw [letP_def]
    have e1 : ((d ++ [y]).length : Int) = (d.length : Int) + 1 := by rw [List.length_append, List.length_singleton]; omega
    refine ok_some ⟨⟨by show (s.2.1 ++ [s.1]).length = _; rw [List.length_append, List.length_append, i1]; rfl, by show -(10 ^ 29) ≤ s.1 + 1 + z; omega, ?_⟩, ⟨?_, fun x hx => ?_⟩, ?_⟩
    · show s.1 + 1 + z ≤ _
      rw [e1]
      omega
    · refine List.pairwise_append.mpr ⟨i4, List.pairwise_singleton _ _, fun x hx y hy => ?_⟩
      have : y = s.1 := by simpa using hy
      rw [this]
      exact (i5 x hx).1
    · show x < s.1 + 1 + z ∧ _
      rcases List.mem_append.mp hx with hx | hx
      · have := i5 x hx; omega
      · have : x = s.1 := by simpa using hx
        omega
    · rw [e1, show b + 3 + 3 * ((d.length : Int) + 1) = b + 3 + 3 * (d.length : Int) + 1 + 1 + 1 by omega]
      exact s6
  · rw [rng_length] at j1 j3 j6
    have : (m.toNat : Int) = m := by omega
    refine ok_some ⟨⟨j4, fun x hx => ?_⟩, by show (s.2.1.length : Int) = m; omega, pool_up j6 (by omega)⟩
    have := j5 x hx
    omega

theorem sending_ok {b m L : Int} {a : List Int} {f : T3 Int Str Int} (hf : ShpOk f) (h : Pool b a) (hb : b < 2 ^ 49) (m0 : 0 ≤ m) (m1 : m ≤ 60) (L0 : 1 ≤ L) (L1 : L ≤ 10 ^ 26) : Ok (p__law_sending a f L m) (fun r => SnT f L r.1 ∧ Pool (b + 1000) r.2) := by
  have h1 := hf.b1; have h9 := hf.b9; have ht := hf.t
  have t9 := two9 hf
  have hsz : 1 ≤ fsz f ∧ fsz f ≤ 13 := by
    have e1 := fsz_eq f
    rw [fsize1_eq] at e1
    have e2 : 1 + f.a + pb f + f.c = fsz f := Option.some.inj e1
    have := pb01 f
    omega
  have esz : sz f = fsz f := by
    have e1 := fsz_eq f
    rw [fsize_eq] at e1
    exact Option.some.inj e1
  have hm : L ≤ fsz f * L ∧ fsz f * L ≤ 13 * L := ⟨by have := Int.mul_le_mul_of_nonneg_right hsz.1 (show 0 ≤ L by omega); omega, Int.mul_le_mul_of_nonneg_right hsz.2 (by omega)⟩
  unfold p__law_sending
  refine ok_bind (draw_ok h (by omega) (by decide) (by decide)) fun r1 ⟨d1, p1⟩ => ?_
  refine ok_bind (ok_at d1.1 (by show r1.1 < 4; exact d1.2)) fun x2 h2 => ?_
  refine ok_bind (draw_ok p1 (by omega) (by decide) (by decide)) fun r3 ⟨d3, p3⟩ => ?_
  have h2' : -(10 ^ 29) ≤ x2 ∧ x2 ≤ 10 ^ 28 := by
    simp only [List.mem_cons, List.not_mem_nil, or_false] at h2
    omega
  rw [letP_def]
  refine ok_bind (text_ok hf p3 (by omega) m0 (by omega)) fun r5 ⟨l5, n5, p5⟩ => ?_
  refine ok_bind (ok_loopM' (fun (d : List Int) (s : Int × List (T2 Int Int) × List Int) => (s.2.1.length = d.length ∧ -(2 * 10 ^ 29) ≤ s.1 ∧ s.1 ≤ 10 ^ 28 + d.length * (23 * 10 ^ 26 + 200)) ∧ (∀ p ∈ s.2.1, EnT f p ∧ p.a + fsz f * L ≤ s.1) ∧ (s.2.1.Pairwise fun p q => p.a + fsz f * L ≤ q.a) ∧ Pool (b + 302 + 3 * (d.length : Int)) s.2.2) (by exact ⟨⟨rfl, by show -(2 * 10 ^ 29) ≤ x2 - r3.1; omega, by show x2 - r3.1 ≤ _; simp only [List.length_nil]; omega⟩, (fun p hp => by cases hp), .nil, pool_mono p5 (by simp only [List.length_nil]; omega)⟩) fun d s y hd ⟨⟨i1, i2, i3⟩, i4, i5, i6⟩ => ?_) fun s ⟨⟨j1, j2, j3⟩, j4, j5, j6⟩ => ?_
  · have hl : d.length + 1 ≤ 60 := by
      have := hd.length_le
      rw [List.length_append, List.length_singleton] at this
      omega
    have hy : NumOk f y := n5 y (hd.subset (List.mem_append_right _ List.mem_cons_self))
    have e1 : (((d ++ [y]).length : Nat) : Int) = (d.length : Int) + 1 := by rw [List.length_append, List.length_singleton]; omega
    refine ok_g (sz_lt' (by omega)) ?_
    rw [letP_def]
    refine ok_bind (draw_ok i6 (by omega) (by decide) (by decide)) fun r32 ⟨d32, p32⟩ => ?_
    refine ok_g (cMul_of (sm_of (by decide) (by decide)) (sm_of (by omega) (by omega))) ?_
    refine ok_bind (draw_ok p32 (by omega) (by omega) (by omega)) fun r34 ⟨d34, p34⟩ => ?_
    refine ok_bind (draw_ok p34 (by omega) (by decide) (by decide)) fun r35 ⟨d35, p35⟩ => ?_
    refine ok_bind (ok_at d35.1 (by show r35.1 < 5; exact d35.2)) fun x36 h36 => ?_
    have h36' : 0 ≤ x36 ∧ x36 ≤ 9 * 10 ^ 26 + 100 := by
      simp only [List.mem_cons, List.not_mem_nil, or_false] at h36
      omega
    rw [size_eq, Option.bind_some, esz]
    refine ok_g (cMul_of (sm_of (by omega) (by omega)) (sm_of (by omega) (by omega))) ?_
    rw [letP_def]
    have hs1 : s.1 ≤ 2 * 10 ^ 29 := by
      have : (d.length : Int) * (23 * 10 ^ 26 + 200) ≤ 60 * (23 * 10 ^ 26 + 200) := Int.mul_le_mul_of_nonneg_right (by omega) (by decide)
      omega
    have hE : EnT f ⟨s.1, y⟩ := ⟨by show -(10 ^ 30) < s.1 ∧ s.1 < 10 ^ 30; omega, hy, by show 0 ≤ y ∧ y < 1000; have := hy.1; have := hy.2; omega⟩
    refine ok_some ⟨⟨by show (s.2.1 ++ [(⟨s.1, y⟩ : T2 Int Int)]).length = (d ++ [y]).length; rw [List.length_append, List.length_append, i1]; rfl, by show -(2 * 10 ^ 29) ≤ s.1 + fsz f * L + x36; omega, ?_⟩, ?_, ?_, ?_⟩
    · show s.1 + fsz f * L + x36 ≤ _
      rw [e1, Int.add_mul]
      omega
    · intro p hp
      show EnT f p ∧ p.a + fsz f * L ≤ s.1 + fsz f * L + x36
      rcases List.mem_append.mp hp with hp | hp
      · have := i4 p hp
        exact ⟨this.1, by omega⟩
      · have e : p = ⟨s.1, y⟩ := by simpa using hp
        subst e
        exact ⟨hE, by show s.1 + fsz f * L ≤ _; omega⟩
    · refine List.pairwise_append.mpr ⟨i5, List.pairwise_singleton _ _, fun p hp q hq => ?_⟩
      have e : q = ⟨s.1, y⟩ := by simpa using hq
      subst e
      exact (i4 p hp).2
    · exact pool_mono p35 (by rw [e1]; omega)
  · have : r5.1.length ≤ 60 := by omega
    exact ok_some ⟨⟨hf, ⟨L0, by omega⟩, by show s.2.1.length ≤ 60; omega, fun p hp => (j4 p hp).1, j5⟩, pool_mono j6 (by omega)⟩
theorem SnT.less {f : T3 Int Str Int} {L : Int} {F : List (T2 Int Int)} (h : SnT f L F) : SnT f 1 F := by
  have hf := h.f
  have h1 := hf.b1; have ht := hf.t
  have hsz : 1 ≤ fsz f := by
    have e1 := fsz_eq f
    rw [fsize1_eq] at e1
    have e2 : 1 + f.a + pb f + f.c = fsz f := Option.some.inj e1
    have := pb01 f
    omega
  refine ⟨hf, ⟨by decide, by decide⟩, h.ln, h.en, h.gap.imp fun {p q} k => ?_⟩
  have : fsz f * 1 ≤ fsz f * L := Int.mul_le_mul_of_nonneg_left h.L.1 (by omega)
  omega
theorem send_right {b m : Int} {a : List Int} (h : Pool b a) (hb : b < 2 ^ 48) (m0 : 0 ≤ m) (m1 : m ≤ 60) : Ok (p__law_sending_right a m) (fun r => r.1 = true ∧ Pool (b + 2000) r.2) := by
  have lz : (1000 : Nat) ≤ sizeLine := by decide
  have s1 : (" " : Str).length = 1 := rfl
  unfold p__law_sending_right
  refine ok_bind (shape_ok h (by omega)) fun r1 ⟨hf, p1⟩ => ?_
  refine ok_bind (draw_ok p1 (by omega) (by decide) (by decide)) fun r2 ⟨d2, p2⟩ => ?_
  refine ok_bind (ok_at d2.1 (by show r2.1 < 3; exact d2.2)) fun x3 h3 => ?_
  have h3' : 1 ≤ x3 ∧ x3 ≤ 10 ^ 26 := by
    simp only [List.mem_cons, List.not_mem_nil, or_false] at h3
    omega
  refine ok_bind (draw_ok p2 (by omega) (by omega) (by omega)) fun r4 ⟨d4, p4⟩ => ?_
  rw [letP_def]
  refine ok_bind (sending_ok hf p4 (by omega) m0 m1 (by omega) (by omega)) fun r6 ⟨S, p6⟩ => ?_
  have hl := S.ln
  have hen := S.en
  refine ok_bind (ok_loopM' (fun d s => s = d.map wd) rfl fun d s y hd hs => ?_) fun s hs => ?_
  · subst hs
    have hy := hen y (hd.subset (List.mem_append_right _ List.mem_cons_self))
    have hdl := hd.length_le
    rw [List.length_append, List.length_singleton] at hdl
    have l1 := tI_len (i := y.a) (by have := hy.a; omega) (by have := hy.a; omega)
    have l2 := tI_len (i := y.b) (by have := hy.b9; omega) (by have := hy.b9; omega)
    have cl := colon_len
    have e1 : (tI y.a ++ colon).length = (tI y.a).length + colon.length := app_len _ _
    refine ok_g l1.2 (ok_g (show (tI y.a).length + colon.length ≤ sizeLine from big (by omega)) (ok_g l2.2 (ok_g (show (tI y.a ++ colon).length + (tI y.b).length ≤ sizeLine from big (by omega)) (ok_g (sz_lt' (by rw [List.length_map]; omega)) ?_))))
    rw [letP_def]
    refine ok_some ?_
    rw [List.map_append, List.map_singleton]
    rfl
  · subst hs
    have sl := sum_len (k := 100) (r6.1.map wd) fun z hz => by
      obtain ⟨y, hy, rfl⟩ := List.mem_map.mp hz
      exact (wd_len (by have := (hen y hy).a; omega) (hen y hy).b9).1
    rw [List.length_map] at sl
    obtain ⟨q1, q2⟩ := send_shw hen hl
    refine ok_g (by rw [List.length_map, s1]; omega) ?_
    rw [letP_def]
    show Ok ((p_format_sending r6.1).bind fun r31 => if shwOk (PyData.str r31) then if shwOk (PyData.str (snw r6.1)) then if ((!decide ((PyData.shown (PyData.str r31)) = (PyData.shown (PyData.str (snw r6.1))))) || (!decide (r6.1 = r6.1))) = true then some (false, r6.2) else (p_parse_sending r1.1 (1 + r4.1) (snw r6.1)).bind fun r34 => _ else none else none) _
    rw [fsend_eq hen hl, Option.bind_some, if_pos q1, if_pos q1]
    simp only [decide_true, Bool.not_true, Bool.or_self, Bool.false_eq_true, if_false]
    rw [psend_eq S, Option.bind_some, enc_oI, if_pos q2, if_pos q2, decide_eq_true rfl]
    simp only [Bool.not_true, Bool.false_eq_true, if_false]
    refine ok_g (sz_lt' (by rw [List.length_map]; omega)) ?_
    rw [letP_def]
    have e2 := psend_eq S.less
    have e1 := psend_eq S
    have ef := fsend_eq hen hl
    unfold snw at e1 e2 ef
    rw [e1, Option.bind_some, enc_oI, if_pos q2, if_pos q2, decide_eq_true rfl]
    simp only [Bool.not_true, Bool.false_eq_true, if_false]
    rw [e2, Option.bind_some, enc_oI, if_pos q2, if_pos q2, decide_eq_true rfl, if_pos rfl, Option.bind_some, decide_eq_true (show snw r6.1 = Txt.join (" " : Str) (r6.1.map wd) from rfl), Option.bind_some]
    exact ok_some ⟨rfl, pool_mono p6 (by omega)⟩
end P
namespace P
open PySem PySem.Spec PyProof.Rows L2 E
/-! k68: the written shapes -/
theorem sl_str {z : Str} (h : z.length ≤ 1000) : z.length ≤ sizeLine := Nat.le_trans h (by decide)
/-- the sign of a number of one figure -/
theorem one_sign {n : Nat} (h : n < 10) : tI (n : Int) = chS (48 + n) := TL.ext_tl (by rw [tl_nat, TL.numL_lt h]; rfl)
def lt3 (l p : Str) : Prop := (l = ("n" : Str) ∧ p = ("none" : Str)) ∨ (l = ("e" : Str) ∧ p = ("even" : Str)) ∨ (l = ("o" : Str) ∧ p = ("odd" : Str))
theorem sAt_k {z : Str} {i : Nat} {c : Nat} (h : (TL.tl z)[i]? = some c) : sAt z (i : Int) = some (chS c) := by
  have h' : z.cps.toList[i]? = some c := h
  have hl : i < z.cps.toList.length := by
    rcases List.getElem?_eq_some_iff.mp h' with ⟨q, _⟩
    exact q
  unfold sAt L2.atI ixN
  rw [if_pos (by omega), Int.toNat_natCast, if_pos (by omega), Option.bind_some, h']
  rfl
section
variable {bits stops : Nat} {l p : Str}
theorem shp_tl (b9 : bits < 10) (s9 : stops < 10) (h : lt3 l p) : ∃ c, TL.tl l = [c] ∧ TL.tl (chS (48 + bits) ++ l ++ chS (48 + stops)) = [48 + bits, c, 48 + stops] ∧ tabGet [(("n" : Str), ("none" : Str)), (("e" : Str), ("even" : Str)), (("o" : Str), ("odd" : Str))] (chS c) = some p ∧ sAt p (0 : Int) = some (chS c) ∧ l = chS c ∧ p.length ≤ 10 := by
  rcases h with ⟨rfl, rfl⟩ | ⟨rfl, rfl⟩ | ⟨rfl, rfl⟩
  · exact ⟨110, by decide +kernel, by rw [tl_app, tl_app, show TL.tl ("n" : Str) = [110] by decide +kernel]; rfl, by decide +kernel, by decide +kernel, by decide +kernel, by decide +kernel⟩
  · exact ⟨101, by decide +kernel, by rw [tl_app, tl_app, show TL.tl ("e" : Str) = [101] by decide +kernel]; rfl, by decide +kernel, by decide +kernel, by decide +kernel, by decide +kernel⟩
  · exact ⟨111, by decide +kernel, by rw [tl_app, tl_app, show TL.tl ("o" : Str) = [111] by decide +kernel]; rfl, by decide +kernel, by decide +kernel, by decide +kernel, by decide +kernel⟩
theorem shape_of_eq (b1 : 1 ≤ bits) (b9 : bits < 10) (s1 : 1 ≤ stops) (s2 : stops ≤ 2) (h : lt3 l p) : p_shape_of (chS (48 + bits) ++ l ++ chS (48 + stops)) = some (some ⟨(bits : Int), p, (stops : Int)⟩) := by
  obtain ⟨c, e1, e2, e3, e4, e5, e6⟩ := shp_tl b9 (by omega : stops < 10) h
  generalize hz : chS (48 + bits) ++ l ++ chS (48 + stops) = z at e2
  have hl : z.length = 3 := by rw [TL.len_tl, e2]; rfl
  have a0 : sAt z (0 : Int) = some (chS (48 + bits)) := sAt_0 e2
  have a1 : sAt z (1 : Int) = some (chS c) := sAt_k (i := 1) (by rw [e2]; rfl)
  have a2 : sAt z (2 : Int) = some (chS (48 + stops)) := sAt_k (i := 2) (by rw [e2]; rfl)
  have i0 : inOne (chS (48 + bits)) ("123456789" : Str) = some true := by
    show some (decide (48 + bits ∈ ("123456789" : Str).cps.toList)) = some true
    have e : ("123456789" : Str).cps.toList = [49, 50, 51, 52, 53, 54, 55, 56, 57] := by decide +kernel
    rw [e, decide_eq_true (by simp only [List.mem_cons, List.not_mem_nil, or_false]; omega)]
  have i2 : inOne (chS (48 + stops)) ("12" : Str) = some true := by
    show some (decide (48 + stops ∈ ("12" : Str).cps.toList)) = some true
    have e : ("12" : Str).cps.toList = [49, 50] := by decide +kernel
    rw [e, decide_eq_true (by simp only [List.mem_cons, List.not_mem_nil, or_false]; omega)]
  have n0 : PySem.intText? (chS (48 + bits)) = some (bits : Int) := by
    rw [← one_sign b9]
    exact TL.int_num (by rw [TL.numL_lt b9]; show 1 ≤ 4300; decide)
  have n2 : PySem.intText? (chS (48 + stops)) = some (stops : Int) := by
    rw [← one_sign (by omega : stops < 10)]
    exact TL.int_num (by rw [TL.numL_lt (by omega)]; show 1 ≤ 4300; decide)
  have lc : ∀ k : Nat, (chS k).length ≤ 640 := fun k => by show 1 ≤ 640; decide
  have ls : z.length ≤ sizeLine := by rw [hl]; exact (by decide : 3 ≤ sizeLine)
  unfold p_shape_of
  rw [if_pos ls]
  have e9 : (!decide (((z.length : Nat) : Int) = (3 : Int))) = false := by rw [hl]; decide
  rw [e9]
  simp only [Bool.false_eq_true, if_false, if_pos ls, a0, a1, a2, i0, i2, Option.bind_some, Bool.not_true, e3, Option.isSome_some, n0, n2, if_pos (lc _)]
theorem fmt_shape (b1 : 1 ≤ bits) (b9 : bits < 10) (s1 : 1 ≤ stops) (s2 : stops ≤ 2) (h : lt3 l p) : p_format_shape ⟨(bits : Int), p, (stops : Int)⟩ = some (chS (48 + bits) ++ l ++ chS (48 + stops)) := by
  obtain ⟨c, e1, e2, e3, e4, e5, e6⟩ := shp_tl b9 (by omega : stops < 10) h
  have l1 := (tI_len (i := (bits : Int)) (by omega) (by omega)).2
  have l2 := (tI_len (i := (stops : Int)) (by omega) (by omega)).2
  have t1 : Str.ofString (toString (bits : Int)) = chS (48 + bits) := one_sign b9
  have t2 : Str.ofString (toString (stops : Int)) = chS (48 + stops) := one_sign (by omega)
  have c1 : ∀ k : Nat, (chS k).length = 1 := fun k => rfl
  unfold p_format_shape
  show (if (bits : Int).natAbs.log2 < 1920 then if p.length ≤ sizeLine then (sAt p (0 : Int)).bind fun x3 => if (Str.ofString (toString (bits : Int))).length + x3.length ≤ sizeLine then if (stops : Int).natAbs.log2 < 1920 then if ((Str.ofString (toString (bits : Int))) ++ x3).length + (Str.ofString (toString (stops : Int))).length ≤ sizeLine then some (((Str.ofString (toString (bits : Int))) ++ x3) ++ (Str.ofString (toString (stops : Int)))) else none else none else none else none else none) = _
  rw [if_pos l1, if_pos (sl_str (by omega)), e4, Option.bind_some, t1, t2, if_pos (by rw [c1, c1]; exact (by decide : 1 + 1 ≤ sizeLine)), if_pos l2, if_pos (by rw [app_len, c1, c1, c1]; exact (by decide : 1 + 1 + 1 ≤ sizeLine)), ← e5]
theorem parse_shp (b1 : 1 ≤ bits) (b9 : bits < 10) (s1 : 1 ≤ stops) (s2 : stops ≤ 2) (h : lt3 l p) : p_parse_shape (chS (48 + bits) ++ l ++ chS (48 + stops)) = some ⟨(bits : Int), p, (stops : Int)⟩ := by
  obtain ⟨c, e1, e2, e3, e4, e5, e6⟩ := shp_tl b9 (by omega : stops < 10) h
  have hs := shape_of_eq b1 b9 s1 s2 h
  have hc : c ≠ 32 := fun z => by
    rcases h with ⟨rfl, rfl⟩ | ⟨rfl, rfl⟩ | ⟨rfl, rfl⟩ <;> (rw [z] at e5; exact absurd e5 (by decide +kernel))
  generalize hz : chS (48 + bits) ++ l ++ chS (48 + stops) = z at e2 hs
  have hl : z.length = 3 := by rw [TL.len_tl, e2]; rfl
  have sp : Txt.split z (" " : Str) = [z] := by
    have := TL.split_join (y := (" " : Str)) (s := 32) (S := []) (by decide +kernel) (by decide +kernel) (parts := [z]) (by simp) (fun q hq => by
      rw [List.mem_singleton.mp hq, e2]
      simp only [List.mem_cons, List.not_mem_nil, or_false]
      omega)
    rw [join_one] at this
    exact this
  unfold p_parse_shape
  have e8 : p_require_string z = some () := by unfold p_require_string; rfl
  rw [e8, Option.bind_some, if_pos ⟨by decide, by rw [hl]; exact (by decide : 3 + 2 ≤ sizeLine)⟩, letP_def, sp, atS0, Option.bind_some, hs]
  rfl
end
end P
namespace P
open PySem PySem.Spec PyProof.Rows L2 E
/-! k68: the law answers True -/
theorem ch_one {c : Nat} (h : c < 16 ^ 8) : ChOk (chS c) := fun d hd => by
  have : d ∈ [c] := hd
  rw [List.mem_singleton.mp this]; exact h
theorem lt3_ch {l p : Str} (h : lt3 l p) : ChOk l ∧ l.length = 1 := by
  rcases h with ⟨rfl, rfl⟩ | ⟨rfl, rfl⟩ | ⟨rfl, rfl⟩ <;> exact ⟨ch_of _, by decide +kernel⟩
theorem lt3_fit {l p : Str} (h : lt3 l p) {x y : Int} (hx : Sm x) (hy : Sm y) : shwOk (enc (⟨x, p, y⟩ : T3 Int Str Int) : D) := by
  have hp : Fit (.str p) 8 0 := by
    rcases h with ⟨rfl, rfl⟩ | ⟨rfl, rfl⟩ | ⟨rfl, rfl⟩ <;> exact fit_of (by decide +kernel)
  exact shw_of (fit_tup (fitl_cons (fit_int hx) (fitl_cons hp (fitl_cons (fit_int hy) fitl_nil)))) (by omega) (by decide)
theorem dig_at : ∀ k, k < 10 → (TL.tl ("0123456789" : Str))[k]? = some (48 + k) := by decide +kernel
theorem dig_at2 : ∀ k, k < 3 → (TL.tl ("012" : Str))[k]? = some (48 + k) := by decide +kernel
theorem shapes_right : Ok p__law_shapes_right (fun b => b = true) := by
  unfold p__law_shapes_right
  refine ok_g (show small62 1 by unfold small62; decide) (ok_g (show small62 10 by unfold small62; decide) ?_)
  refine ok_bind (ok_loopF' (fun d s => True) trivial fun d s i4 hd _ => ?_) fun w ⟨s, hw, _⟩ => ?_
  · have h4 := mem_rng.mp (hd.subset (List.mem_append_right _ List.mem_cons_self))
    obtain ⟨k, rfl, k1, k9⟩ : ∃ k : Nat, i4 = (k : Int) ∧ 1 ≤ k ∧ k < 10 := ⟨i4.toNat, by omega, by omega, by omega⟩
    refine ok_bind (ok_loopF' (fun d s => s = (k : Int)) rfl fun d s i84 hd hs => ?_) fun w ⟨s, hw, hs⟩ => ?_
    · subst hs
      have h84 : lt3 i84.a i84.b := by
        have := hd.subset (List.mem_append_right _ List.mem_cons_self)
        simp only [List.mem_cons, List.not_mem_nil, or_false] at this
        rcases this with rfl | rfl | rfl
        · exact .inl ⟨rfl, rfl⟩
        · exact .inr (.inl ⟨rfl, rfl⟩)
        · exact .inr (.inr ⟨rfl, rfl⟩)
      refine ok_bind (ok_loopF' (fun d s => s = ((k : Int), i84.b)) rfl fun d s i124 hd hs => ?_) fun w ⟨s, hw, hs⟩ => ?_
      · subst hs
        have h124 : i124 = 1 ∨ i124 = 2 := by
          have := hd.subset (List.mem_append_right _ List.mem_cons_self)
          simpa using this
        obtain ⟨j, rfl, j1, j2⟩ : ∃ j : Nat, i124 = (j : Int) ∧ 1 ≤ j ∧ j ≤ 2 := ⟨i124.toNat, by omega, by omega, by omega⟩
        have c1 : ∀ k : Nat, (chS k).length = 1 := fun k => rfl
        obtain ⟨q1, q2⟩ := lt3_ch h84
        have f1 := fmt_shape k1 k9 j1 j2 h84
        have f2 := parse_shp k1 k9 j1 j2 h84
        have w1 : shwOk (PyData.str (chS (48 + k) ++ i84.a ++ chS (48 + j))) := shw_str (ch_app (ch_app (ch_one (by omega)) q1) (ch_one (by omega))) (by rw [app_len, app_len, c1, c1, q2]; decide)
        have w2 := lt3_fit h84 (x := (k : Int)) (y := (j : Int)) (sm_of (by omega) (by omega)) (sm_of (by omega) (by omega))
        refine ok_g (by decide) ?_
        rw [sAt_k (i := k) (dig_at k k9), Option.bind_some]
        refine ok_g (by rw [c1, q2]; exact (by decide : 1 + 1 ≤ sizeLine)) (ok_g (by decide) ?_)
        rw [sAt_k (i := j) (dig_at2 j (by omega)), Option.bind_some]
        refine ok_g (by rw [app_len, c1, c1, q2]; exact (by decide : 1 + 1 + 1 ≤ sizeLine)) ?_
        rw [letP_def]
        simp only [f1, f2, Option.bind_some, if_pos w1, if_pos w2, decide_true, Bool.not_true, Bool.false_eq_true, if_false]
        exact ok_some ⟨_, rfl, rfl⟩
      · subst hw; subst hs
        exact ok_some ⟨_, rfl, rfl⟩
    · subst hw
      exact ok_some ⟨_, rfl, trivial⟩
  · subst hw
    simp only [Lr.elim]
    have h3 : lt3 ("o" : Str) ("odd" : Str) := .inr (.inr ⟨rfl, rfl⟩)
    have f1 := fmt_shape (bits := 5) (stops := 2) (by decide) (by decide) (by decide) (by decide) h3
    have f2 := parse_shp (bits := 5) (stops := 2) (by decide) (by decide) (by decide) (by decide) h3
    have e : chS (48 + 5) ++ ("o" : Str) ++ chS (48 + 2) = ("5o2" : Str) := by decide +kernel
    rw [e] at f1 f2
    rw [show ((5 : Nat) : Int) = (5 : Int) by rfl, show ((2 : Nat) : Int) = (2 : Int) by rfl] at f1 f2
    rw [f1, Option.bind_some, decide_eq_true rfl, if_pos rfl, f2, Option.bind_some]
    refine ok_bind (Q := fun b => b = true) (ok_g ?_ (ok_some (decide_eq_true rfl))) fun b hb => ok_some hb
    decide +kernel
theorem mult_ok {xs : List Int} (hr : Rises xs) (hb : ∀ x ∈ xs, -(10 ^ 29) ≤ x ∧ x ≤ 10 ^ 29) (hl : xs.length ≤ 800) : p_multiplied xs (100000000000000000000000000000 : Int) = some (xs.map fun x => x * 100000000000000000000000000000) := by
  unfold p_multiplied
  have e1 : p_require_at_least (100000000000000000000000000000 : Int) 1 = some () := by
    unfold p_require_at_least p_is_at_least p_is_integer
    rfl
  rw [signal_eq hr hl, Option.bind_some, e1, Option.bind_some]
  rw [compB_eq (f := fun x => [x * 100000000000000000000000000000]) fun x hx => if_pos (cMul_of (sm_of (by have := hb x hx; omega) (by have := hb x hx; omega)) (sm_of (by decide) (by decide))), Option.bind_some, ← List.map_eq_flatMap, if_pos (big (by rw [List.length_map]; omega))]
theorem law_ok (ns : List Int) : Ok (p_law ns) (fun b => b = true) := by
  have sg : ∀ {xs : List Int}, Rises xs → (∀ x ∈ xs, -(10 ^ 29) ≤ x ∧ x ≤ 10 ^ 29) → xs.length ≤ 800 → SgT xs := fun h1 h2 h3 => ⟨h3, h1, fun x hx => by have := h2 x hx; omega⟩
  unfold p_law
  refine ok_g (by unfold small62; omega) ?_
  refine ok_bind (ok_loopF' (fun d s => True) trivial fun d s i3 hd _ => ?_) fun w ⟨s, hw, _⟩ => ?_
  · have h3 := mem_rng.mp (hd.subset (List.mem_append_right _ List.mem_cons_self))
    obtain ⟨k, rfl, k9⟩ : ∃ k : Nat, i3 = (k : Int) ∧ k < 1000 := ⟨i3.toNat, by omega, by omega⟩
    refine ok_bind (pool_ok ns k k9) fun r23 p23 => ?_
    refine ok_bind (draw_ok p23 (by omega) (by decide) (by decide)) fun r24 ⟨d24, p24⟩ => ?_
    refine ok_bind (sig68_ok p24 (by omega) d24.1 (by omega)) fun r25 ⟨⟨hr, hb⟩, hl, p25⟩ => ?_
    have S := sg hr hb (by omega)
    rw [signal_right S, Option.bind_some]
    simp only [Bool.not_true, Bool.false_eq_true, if_false]
    have b60 : ∀ x ∈ r25.1.map (fun x => x * 100000000000000000000000000000), -(10 ^ 60) < x ∧ x < 10 ^ 60 := fun x hx => by
      obtain ⟨y, hy, rfl⟩ := List.mem_map.mp hx
      have := hb y hy
      omega
    have hcm : compB (fun (y27 : Int) => (if cMul y27 (100000000000000000000000000000 : Int) then (if ((y27 * (100000000000000000000000000000 : Int))).natAbs.log2 < 1920 then (some [(Str.ofString (toString (y27 * (100000000000000000000000000000 : Int))))]) else none) else none)) r25.1 = some ((r25.1.map (fun x => x * 100000000000000000000000000000)).map tI) := by
      rw [compB_eq (f := fun y => [tI (y * 100000000000000000000000000000)]) fun y hy => by
        rw [if_pos (cMul_of (sm_of (by have := hb y hy; omega) (by have := hb y hy; omega)) (sm_of (by decide) (by decide)))]
        have := b60 _ (List.mem_map_of_mem hy)
        exact if_pos (tI_len60 this.1 this.2).2]
      rw [← List.map_eq_flatMap, List.map_map]
      rfl
    have sl := sum_len (k := 61) _ (tIs_len b60)
    have s1 : (" " : Str).length = 1 := rfl
    rw [List.length_map, List.length_map] at sl
    rw [hcm, Option.bind_some]
    refine ok_g (big (by rw [List.length_map, List.length_map]; omega)) (ok_g (by rw [List.length_map, List.length_map, s1]; omega) ?_)
    rw [letP_def, mult_ok hr hb (by omega), Option.bind_some, format_eq b60 (by rw [List.length_map]; omega), Option.bind_some, decide_eq_true (show sgw _ = Txt.join _ _ from rfl)]
    simp only [Bool.not_true, Bool.false_eq_true, if_false]
    refine ok_bind (draw_ok p25 (by omega) (by decide) (by decide)) fun r40 ⟨d40, p40⟩ => ?_
    refine ok_bind (send_right p40 (by omega) d40.1 (by omega)) fun r41 ⟨e41, p41⟩ => ?_
    rw [e41]
    simp only [Bool.not_true, Bool.false_eq_true, if_false]
    exact ok_some ⟨_, rfl, trivial⟩
  · subst hw
    simp only [Lr.elim]
    refine ok_bind (pool_ok ns 0 (by decide)) fun r42 p42 => ?_
    refine ok_bind (draw_ok p42 (by omega) (by decide) (by decide)) fun r43 ⟨d43, p43⟩ => ?_
    refine ok_bind (sig68_ok p43 (by omega) (by omega) (by omega)) fun r44 ⟨⟨hr, hb⟩, hl, p44⟩ => ?_
    rw [signal_right (sg hr hb (by omega)), Option.bind_some]
    simp only [Bool.not_true, Bool.false_eq_true, if_false]
    refine ok_bind (draw_ok p44 (by omega) (by decide) (by decide)) fun r46 ⟨d46, p46⟩ => ?_
    refine ok_bind (send_right p46 (by omega) (by omega) (by omega)) fun r47 ⟨e47, p47⟩ => ?_
    rw [e47]
    simp only [Bool.not_true, Bool.false_eq_true, if_false, letP_def]
    have S4 : SgT [(-999999999999999999999999999999 : Int), (-(1 : Int)), (0 : Int), (999999999999999999999999999999 : Int)] := ⟨by decide, by decide, fun x hx => by
      simp only [List.mem_cons, List.not_mem_nil, or_false] at hx
      omega⟩
    have S0 : SgT [] := ⟨by decide, .nil, fun x hx => by cases hx⟩
    rw [signal_right S4, Option.bind_some]
    simp only [Bool.not_true, Bool.false_eq_true, if_false]
    rw [signal_right S0, Option.bind_some]
    simp only [Bool.not_true, Option.bind_some, Bool.false_eq_true, if_false]
    have ef : p_format_sending [] = some ("" : Str) := (fsend_eq (f := ⟨8, "none", 1⟩) (F := []) (fun y hy => by cases hy) (by decide)).trans (by
      show some (Txt.join (" " : Str) []) = _
      rw [join_nil]
      decide +kernel)
    have Sn : SnT (⟨8, ("none" : Str), 1⟩ : T3 Int Str Int) 9 [] := ⟨⟨by decide, by decide, by decide +kernel, .inl rfl⟩, ⟨by decide, by decide⟩, by decide, (fun y hy => by cases hy), .nil⟩
    have ep : p_parse_sending (⟨(8 : Int), ("none" : Str), (1 : Int)⟩ : T3 Int Str Int) 9 ("" : Str) = some [] := by
      have := psend_eq Sn
      have e0 : snw [] = ("" : Str) := by
        show Txt.join (" " : Str) [] = _
        rw [join_nil]
        decide +kernel
      rw [e0] at this
      exact this
    rw [ef, Option.bind_some, decide_eq_true rfl, if_pos rfl, ep, Option.bind_some, eqv_nil, decide_eq_true rfl, if_pos rfl]
    obtain ⟨b, hb1, hb2⟩ := shapes_right
    rw [hb1, hb2]
    exact ok_some rfl
theorem keeps : E.Keeps m_law 63 := keeps_of fun ns _ => ⟨_, x_law ns (by
  obtain ⟨b, h, e⟩ := law_ok ns
  rw [h, e])⟩
end P
open PySem PySem.W PyProof.Rows
set_option maxHeartbeats 0 in
theorem PySem.Challenge.cw_startbits_k68_texts_written_and_read_holds : PySem.Challenge.rw_startbits_k68_texts_written_and_read.Holds := by
  w_on; o_law; k_head; (case hw => w_witness2)
  k_fill
  refine E.walk_g (l := PySem.Challenge.rw_startbits_k68_texts_written_and_read) (k := 6) (n := 7) (x := "_law_script") (F := P.m_law) rfl (by decide) rfl ⟨rfl, by decide, by decide⟩ (by decide) (fun w h Y => PySem.W.kIn_of Y) (by decide +kernel) (fun w => by rfl) ?F P.keeps
  case F =>
    intro w mg fa h KX G hmg
    refine' P.all_mk KX G hmg ?q_z0 ?q_z1 ?q_z2 ?q_z3 ?q_z4 ?q_z5 ?q_z6 ?q_z7 ?q_z8 ?q_z9 ?q_z10 ?q_z11 ?q_z12 ?q_z13 ?q_g0 ?q_g1 ?q_g2 ?q_g3 ?q_g4 ?q_la4_0 ?q_tg0 ?q_tl0 ?q_ts0 ?q_a0 ?q_l0 ?q_c0 ?q_k0 ?q_a1 ?q_l1 ?q_c1 ?q_k1 ?q_a2 ?q_l2 ?q_c2 ?q_k2 ?q_a3 ?q_l3 ?q_c3 ?q_k3 ?q_a4 ?q_l4 ?q_c4 ?q_k4 ?q_a5 ?q_l5 ?q_c5 ?q_k5 ?q_a6 ?q_l6 ?q_c6 ?q_k6 ?q_a7 ?q_l7 ?q_c7 ?q_k7 ?q_a8 ?q_l8 ?q_c8 ?q_k8 ?q_a9 ?q_l9 ?q_c9 ?q_k9 ?q_a10 ?q_l10 ?q_c10 ?q_k10 ?q_a11 ?q_l11 ?q_c11 ?q_k11 ?q_a12 ?q_l12 ?q_c12 ?q_k12 ?q_a13 ?q_l13 ?q_c13 ?q_k13 ?q_a14 ?q_l14 ?q_c14 ?q_k14 ?q_a15 ?q_l15 ?q_c15 ?q_k15 ?q_a16 ?q_l16 ?q_c16 ?q_k16 ?q_a17 ?q_l17 ?q_c17 ?q_k17 ?q_a18 ?q_l18 ?q_c18 ?q_k18 ?q_a19 ?q_l19 ?q_c19 ?q_k19 ?q_a20 ?q_l20 ?q_c20 ?q_k20 ?q_a21 ?q_l21 ?q_c21 ?q_k21 ?q_a22 ?q_l22 ?q_c22 ?q_k22 ?q_a23 ?q_l23 ?q_c23 ?q_k23 ?q_a24 ?q_l24 ?q_c24 ?q_k24 ?q_a25 ?q_l25 ?q_c25 ?q_k25 ?q_a26 ?q_l26 ?q_c26 ?q_k26 ?q_a27 ?q_l27 ?q_c27 ?q_k27 ?q_a28 ?q_l28 ?q_c28 ?q_k28 ?q_a29 ?q_l29 ?q_T29l ?q_c29 ?q_k29 ?q_a30 ?q_l30 ?q_c30 ?q_k30 ?q_a31 ?q_l31 ?q_c31 ?q_k31 ?q_a32 ?q_l32 ?q_c32 ?q_k32
    (case q_z0 => k_is)
    (case q_z1 => k_is)
    (case q_z2 => k_is)
    (case q_z3 => k_is)
    (case q_z4 => k_is)
    (case q_z5 => k_is)
    (case q_z6 => k_is)
    (case q_z7 => k_is)
    (case q_z8 => k_is)
    (case q_z9 => k_is)
    (case q_z10 => k_is)
    (case q_z11 => k_is)
    (case q_z12 => k_is)
    (case q_z13 => k_is)
    (case q_g0 => k_is)
    (case q_g1 => k_is)
    (case q_g2 => k_is)
    (case q_g3 => k_is)
    (case q_g4 => k_is)
    (case q_la4_0 => k_is)
    (case q_tg0 => k_is)
    (case q_tl0 => k_is)
    (case q_ts0 => first | rfl | decide)
    (case q_a0 => k_is)
    (case q_l0 => k_is)
    (case q_c0 => k_is)
    (case q_k0 => k_is)
    (case q_a1 => k_is)
    (case q_l1 => k_is)
    (case q_c1 => k_is)
    (case q_k1 => k_is)
    (case q_a2 => k_is)
    (case q_l2 => k_is)
    (case q_c2 => k_is)
    (case q_k2 => k_is)
    (case q_a3 => k_is)
    (case q_l3 => k_is)
    (case q_c3 => k_is)
    (case q_k3 => k_is)
    (case q_a4 => k_is)
    (case q_l4 => k_is)
    (case q_c4 => k_is)
    (case q_k4 => k_is)
    (case q_a5 => k_is)
    (case q_l5 => k_is)
    (case q_c5 => k_is)
    (case q_k5 => k_is)
    (case q_a6 => k_is)
    (case q_l6 => k_is)
    (case q_c6 => k_is)
    (case q_k6 => k_is)
    (case q_a7 => k_is)
    (case q_l7 => k_is)
    (case q_c7 => k_is)
    (case q_k7 => k_is)
    (case q_a8 => k_is)
    (case q_l8 => k_is)
    (case q_c8 => k_is)
    (case q_k8 => k_is)
    (case q_a9 => k_is)
    (case q_l9 => k_is)
    (case q_c9 => k_is)
    (case q_k9 => k_is)
    (case q_a10 => k_is)
    (case q_l10 => k_is)
    (case q_c10 => k_is)
    (case q_k10 => k_is)
    (case q_a11 => k_is)
    (case q_l11 => k_is)
    (case q_c11 => k_is)
    (case q_k11 => k_is)
    (case q_a12 => k_is)
    (case q_l12 => k_is)
    (case q_c12 => k_is)
    (case q_k12 => k_is)
    (case q_a13 => k_is)
    (case q_l13 => k_is)
    (case q_c13 => k_is)
    (case q_k13 => k_is)
    (case q_a14 => k_is)
    (case q_l14 => k_is)
    (case q_c14 => k_is)
    (case q_k14 => k_is)
    (case q_a15 => k_is)
    (case q_l15 => k_is)
    (case q_c15 => k_is)
    (case q_k15 => k_is)
    (case q_a16 => k_is)
    (case q_l16 => k_is)
    (case q_c16 => k_is)
    (case q_k16 => k_is)
    (case q_a17 => k_is)
    (case q_l17 => k_is)
    (case q_c17 => k_is)
    (case q_k17 => k_is)
    (case q_a18 => k_is)
    (case q_l18 => k_is)
    (case q_c18 => k_is)
    (case q_k18 => k_is)
    (case q_a19 => k_is)
    (case q_l19 => k_is)
    (case q_c19 => k_is)
    (case q_k19 => k_is)
    (case q_a20 => k_is)
    (case q_l20 => k_is)
    (case q_c20 => k_is)
    (case q_k20 => k_is)
    (case q_a21 => k_is)
    (case q_l21 => k_is)
    (case q_c21 => k_is)
    (case q_k21 => k_is)
    (case q_a22 => k_is)
    (case q_l22 => k_is)
    (case q_c22 => k_is)
    (case q_k22 => k_is)
    (case q_a23 => k_is)
    (case q_l23 => k_is)
    (case q_c23 => k_is)
    (case q_k23 => k_is)
    (case q_a24 => k_is)
    (case q_l24 => k_is)
    (case q_c24 => k_is)
    (case q_k24 => k_is)
    (case q_a25 => k_is)
    (case q_l25 => k_is)
    (case q_c25 => k_is)
    (case q_k25 => k_is)
    (case q_a26 => k_is)
    (case q_l26 => k_is)
    (case q_c26 => k_is)
    (case q_k26 => k_is)
    (case q_a27 => k_is)
    (case q_l27 => k_is)
    (case q_c27 => k_is)
    (case q_k27 => k_is)
    (case q_a28 => k_is)
    (case q_l28 => k_is)
    (case q_c28 => k_is)
    (case q_k28 => k_is)
    (case q_a29 => k_is)
    (case q_l29 => k_is)
    (case q_T29l => k_is)
    (case q_c29 => k_is)
    (case q_k29 => k_is)
    (case q_a30 => k_is)
    (case q_l30 => k_is)
    (case q_c30 => k_is)
    (case q_k30 => k_is)
    (case q_a31 => k_is)
    (case q_l31 => k_is)
    (case q_c31 => k_is)
    (case q_k31 => k_is)
    (case q_a32 => k_is)
    (case q_l32 => k_is)
    (case q_c32 => k_is)
    (case q_k32 => k_is)

