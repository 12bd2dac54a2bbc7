import PyProof.Rows.All
import Wide.All
import OpenK.AllK
import Wide.FinOn
import HandS.ForMost
import HandS.Defaults
import HandS.Wide
import HandS.Flow
import HandS.WordsDict
import HandS.TupAny
import HandS.Style
import HandS.Replace
import KE.KDictZip
import KE.GoesNew
import HandS.Ends
import KE.KRevIter
import HandS.Rev
import HandS.IsInst
import PyProof.Rows.StrRev
import KE.KRevSl
import KE.KDictDisplayH
import HandS.DictTup
import PyProof.Rows.StrMul
import HandS.Iter
import HandS.DictComp
import HandS.SetKeys
import HandS.Star
import HandS.TupLen
import KE.DataEq
import HandS.Remove
import PyProof.SeqIndex
import HandS.Head0
import HandS.Head1
import HandS.Head2
import HandS.HeadEnd
import HandS.HeadHook1
import HandS.HeadHook2
import PySem.Challenge.RW_leftroads_k95_whole_tables_tell_machines
set_option Elab.async false
set_option linter.all false
set_option maxRecDepth 100000
set_option maxHeartbeats 8000000
namespace DL
open PySem PySem.Spec PyProof.Rows L2

/-! ### data in the heap -/
/-- a key as data -/
def kD : Key → PyData
  | .inl i => .int i
  | .inr x => .str x
/-- the key of a dict whose keys are tuples -/
def kTD (ks : List Key) : PyData := .tuple (ks.map kD)
def isTup : HO → Bool
  | .tup _ => true
  | _ => false

mutual
/-- v tells d in H; no list and no dict of it stands where O holds -/
inductive Is (O : Addr → Prop) (H : Hp) : V → PyData → Prop
  | non : Is O H .non .none
  | bl (b : Bool) : Is O H (.bl b) (.bool b)
  | int (i : Int) : Is O H (.int i) (.int i)
  | str (x : Str) : Is O H (.str x) (.str x)
  | lst {a : Addr} {xs : List V} {ds : List PyData} : ¬ O a → H a = some (.lst xs) → IsAll O H xs ds → Is O H (.ref a) (.list ds)
  | tup {a : Addr} {xs : List V} {ds : List PyData} : H a = some (.tup xs) → IsAll O H xs ds → Is O H (.ref a) (.tuple ds)
  | dK {a : Addr} {kvs : List (Key × V)} {es : List (PyData × PyData)} : ¬ O a → Rd H a (.dK kvs) → IsK O H kvs es → Is O H (.ref a) (.dict es)
  | dT {a : Addr} {kvs : List (List Key × V)} {es : List (PyData × PyData)} : ¬ O a → Rd H a (.dT kvs) → IsT O H kvs es → Is O H (.ref a) (.dict ((.none, .none) :: es))
inductive IsAll (O : Addr → Prop) (H : Hp) : List V → List PyData → Prop
  | nil : IsAll O H [] []
  | cons {v : V} {vs : List V} {d : PyData} {ds : List PyData} : Is O H v d → IsAll O H vs ds → IsAll O H (v :: vs) (d :: ds)
inductive IsK (O : Addr → Prop) (H : Hp) : List (Key × V) → List (PyData × PyData) → Prop
  | nilK : IsK O H [] []
  | consK {k : Key} {v : V} {vs : List (Key × V)} {d : PyData} {ds : List (PyData × PyData)} : Is O H v d → IsK O H vs ds → IsK O H ((k, v) :: vs) ((kD k, d) :: ds)
inductive IsT (O : Addr → Prop) (H : Hp) : List (List Key × V) → List (PyData × PyData) → Prop
  | nilT : IsT O H [] []
  | consT {k : List Key} {v : V} {vs : List (List Key × V)} {d : PyData} {ds : List (PyData × PyData)} : Is O H v d → IsT O H vs ds → IsT O H ((k, v) :: vs) ((kTD k, d) :: ds)
end

/-- from one state to a later one: nothing is written but at O; what stood outside O stays outside -/
def Adv (O O' : Addr → Prop) (H H' : Hp) : Prop :=
  (∀ b o, H b = some o → (¬ O b ∨ isTup o = true) → H' b = some o) ∧ ∀ b o, H b = some o → ¬ O b → ¬ O' b
theorem Adv.refl {O : Addr → Prop} {H : Hp} : Adv O O H H := ⟨fun _ _ h _ => h, fun _ _ _ h => h⟩
theorem Adv.trans {O O' O'' : Addr → Prop} {H H' H'' : Hp} (a : Adv O O' H H') (b : Adv O' O'' H' H'') : Adv O O'' H H'' := by
  refine ⟨fun c o h k => ?_, fun c o h k => b.2 c o (a.1 c o h (.inl k)) (a.2 c o h k)⟩
  rcases k with k | k
  · exact b.1 c o (a.1 c o h (.inl k)) (.inl (a.2 c o h k))
  · exact b.1 c o (a.1 c o h (.inr k)) (.inr k)
theorem Adv.sub {O O' : Addr → Prop} {H : Hp} (h : ∀ a, O' a → O a) : Adv O O' H H := ⟨fun _ _ h _ => h, fun _ _ _ k z => k (h _ z)⟩
theorem Adv.rd {O O' : Addr → Prop} {H H' : Hp} (m : Adv O O' H H') {a : Addr} {u : HO} (n : ¬ O a) (r : Rd H a u) : ¬ O' a ∧ Rd H' a u := by
  rcases r with r | ⟨o, r⟩
  · exact ⟨m.2 _ _ r n, .inl (m.1 _ _ r (.inl n))⟩
  · exact ⟨m.2 _ _ r n, .inr ⟨o, m.1 _ _ r (.inl n)⟩⟩

theorem Is.mono {O O' : Addr → Prop} {H H' : Hp} (m : Adv O O' H H') {v : V} {d : PyData} (h : Is O H v d) : Is O' H' v d := by
  induction h using Is.rec (motive_2 := fun xs ds _ => IsAll O' H' xs ds) (motive_3 := fun xs ds _ => IsK O' H' xs ds) (motive_4 := fun xs ds _ => IsT O' H' xs ds) with
  | non => exact .non
  | bl b => exact .bl b
  | int i => exact .int i
  | str x => exact .str x
  | lst n r _ ih => exact .lst (m.2 _ _ r n) (m.1 _ _ r (.inl n)) ih
  | tup r _ ih => exact .tup (m.1 _ _ r (.inr rfl)) ih
  | dK n r _ ih => exact .dK (m.rd n r).1 (m.rd n r).2 ih
  | dT n r _ ih => exact .dT (m.rd n r).1 (m.rd n r).2 ih
  | nil => exact .nil
  | cons _ _ h1 h2 => exact .cons h1 h2
  | nilK => exact .nilK
  | consK _ _ h1 h2 => exact .consK h1 h2
  | nilT => exact .nilT
  | consT _ _ h1 h2 => exact .consT h1 h2
theorem IsAll.mono {O O' : Addr → Prop} {H H' : Hp} (m : Adv O O' H H') : ∀ {vs : List V} {ds : List PyData}, IsAll O H vs ds → IsAll O' H' vs ds
  | _, _, .nil => .nil
  | _, _, .cons h t => .cons (h.mono m) (IsAll.mono m t)
theorem IsK.mono {O O' : Addr → Prop} {H H' : Hp} (m : Adv O O' H H') : ∀ {vs : List (Key × V)} {ds : List (PyData × PyData)}, IsK O H vs ds → IsK O' H' vs ds
  | _, _, .nilK => .nilK
  | _, _, .consK h t => .consK (h.mono m) (IsK.mono m t)
theorem IsT.mono {O O' : Addr → Prop} {H H' : Hp} (m : Adv O O' H H') : ∀ {vs : List (List Key × V)} {ds : List (PyData × PyData)}, IsT O H vs ds → IsT O' H' vs ds
  | _, _, .nilT => .nilT
  | _, _, .consT h t => .consT (h.mono m) (IsT.mono m t)
theorem IsAll.length {O : Addr → Prop} {H : Hp} : ∀ {vs : List V} {ds : List PyData}, IsAll O H vs ds → vs.length = ds.length
  | _, _, .nil => rfl
  | _, _, .cons _ t => congrArg Nat.succ (IsAll.length t)
theorem IsAll.get {O : Addr → Prop} {H : Hp} : ∀ {vs : List V} {ds : List PyData} {i : Nat} {d : PyData}, IsAll O H vs ds → ds[i]? = some d → ∃ v, vs[i]? = some v ∧ Is O H v d
  | _, _, _, _, .nil, e => by simp at e
  | _, _, 0, _, .cons r _, e => by simp at e; subst e; exact ⟨_, rfl, r⟩
  | _, _, i + 1, d, .cons _ t, e => by
    obtain ⟨u, h1, h2⟩ := IsAll.get (i := i) (d := d) t (by simpa using e)
    exact ⟨u, by simpa using h1, h2⟩
theorem IsAll.append {O : Addr → Prop} {H : Hp} : ∀ {xs ys : List V} {ds es : List PyData}, IsAll O H xs ds → IsAll O H ys es → IsAll O H (xs ++ ys) (ds ++ es)
  | _, _, _, _, .nil, s => s
  | _, _, _, _, .cons r t, s => .cons r (IsAll.append t s)
theorem IsAll.set {O : Addr → Prop} {H : Hp} {v : V} {d : PyData} (h : Is O H v d) : ∀ {xs : List V} {ds : List PyData} (i : Nat), IsAll O H xs ds → IsAll O H (xs.set i v) (ds.set i d)
  | _, _, _, .nil => .nil
  | _, _, 0, .cons _ t => .cons h t
  | _, _, i + 1, .cons q t => .cons q (IsAll.set h i t)
theorem IsAll.take {O : Addr → Prop} {H : Hp} : ∀ {xs : List V} {ds : List PyData} (n : Nat), IsAll O H xs ds → IsAll O H (xs.take n) (ds.take n)
  | _, _, 0, _ => .nil
  | _, _, _ + 1, .nil => .nil
  | _, _, n + 1, .cons r t => .cons r (IsAll.take n t)
theorem IsAll.drop {O : Addr → Prop} {H : Hp} : ∀ {xs : List V} {ds : List PyData} (n : Nat), IsAll O H xs ds → IsAll O H (xs.drop n) (ds.drop n)
  | _, _, 0, r => r
  | _, _, _ + 1, .nil => .nil
  | _, _, n + 1, .cons _ t => IsAll.drop n t
theorem IsAll.dropLast {O : Addr → Prop} {H : Hp} {xs : List V} {ds : List PyData} (h : IsAll O H xs ds) : IsAll O H xs.dropLast ds.dropLast := by
  rw [List.dropLast_eq_take, List.dropLast_eq_take, h.length]
  exact h.take _
theorem IsAll.reverse {O : Addr → Prop} {H : Hp} : ∀ {xs : List V} {ds : List PyData}, IsAll O H xs ds → IsAll O H xs.reverse ds.reverse
  | _, _, .nil => .nil
  | _, _, .cons r t => by
    rw [List.reverse_cons, List.reverse_cons]
    exact (IsAll.reverse t).append (.cons r .nil)

/-! ### data without lists and dicts: it does not matter where they stand -/
mutual
def flat : PyData → Bool
  | .none => true
  | .bool _ => true
  | .int _ => true
  | .str _ => true
  | .list _ => false
  | .tuple xs => flats xs
  | .dict _ => false
def flats : List PyData → Bool
  | [] => true
  | d :: ds => flat d && flats ds
end
theorem Is.flat_any {O O' : Addr → Prop} {H : Hp} {v : V} {d : PyData} (h : Is O H v d) (f : flat d = true) : Is O' H v d := by
  revert f
  induction h using Is.rec (motive_2 := fun xs ds _ => flats ds = true → IsAll O' H xs ds) (motive_3 := fun xs ds _ => True) (motive_4 := fun xs ds _ => True) with
  | non => exact fun _ => .non
  | bl b => exact fun _ => .bl b
  | int i => exact fun _ => .int i
  | str x => exact fun _ => .str x
  | lst n r _ ih => intro f; simp [flat] at f
  | tup r _ ih => intro f; exact .tup r (ih (by simpa [flat] using f))
  | dK n r _ ih => intro f; simp [flat] at f
  | dT n r _ ih => intro f; simp [flat] at f
  | nil => first | exact IsAll.nil | exact fun _ => IsAll.nil
  | cons _ _ h1 h2 =>
    rename_i f
    simp only [flats, Bool.and_eq_true] at f
    exact .cons (h1 f.1) (h2 f.2)
  | nilK => trivial
  | consK _ _ _ _ => trivial
  | nilT => trivial
  | consT _ _ _ _ => trivial

theorem IsAll.flat_any {O O' : Addr → Prop} {H : Hp} : ∀ {vs : List V} {ds : List PyData}, IsAll O H vs ds → flats ds = true → IsAll O' H vs ds
  | _, _, .nil, _ => .nil
  | _, _, .cons a t, h => by
    simp only [flats, Bool.and_eq_true] at h
    exact .cons (a.flat_any h.1) (IsAll.flat_any t h.2)
/-! ### a list of lists, all of them new -/
/-- at p stands a list of flat data -/
def GridAt (H : Hp) (p : Addr) (ds : List PyData) : Prop := ∃ xs, H p = some (.lst xs) ∧ IsAll (fun _ => True) H xs ds ∧ flats ds = true
structure Grid (H : Hp) (a : Addr) (as : List Addr) (dss : List (List PyData)) : Prop where
  top : H a = some (.lst (as.map V.ref))
  nod : (a :: as).Nodup
  len : as.length = dss.length
  row : ∀ (i : Nat) (p : Addr) (ds : List PyData), as[i]? = some p → dss[i]? = some ds → GridAt H p ds
def gridD (dss : List (List PyData)) : PyData := .list (dss.map .list)
theorem GridAt.mono {H H' : Hp} {p : Addr} {ds : List PyData} (h : GridAt H p ds) (e : H' p = H p) (t : ∀ b o, H b = some o → isTup o = true → H' b = some o) : GridAt H' p ds := by
  obtain ⟨xs, h1, h2, h3⟩ := h
  exact ⟨xs, e.trans h1, h2.mono ⟨fun b o e k => t b o e (k.elim (fun z => absurd trivial z) id), fun _ _ _ z => absurd trivial z⟩, h3⟩
theorem Grid.mono {H H' : Hp} {a : Addr} {as : List Addr} {dss : List (List PyData)} (h : Grid H a as dss) (k : ∀ b o, b = a ∨ b ∈ as → H b = some o → H' b = some o) (t : ∀ b o, H b = some o → isTup o = true → H' b = some o) : Grid H' a as dss :=
  ⟨k a _ (.inl rfl) h.top, h.nod, h.len, fun i p ds h1 h2 => by
    obtain ⟨xs, e, _⟩ := h.row i p ds h1 h2
    exact (h.row i p ds h1 h2).mono ((k p _ (.inr (List.mem_of_getElem? h1)) e).trans e.symm) t⟩
theorem Grid.is {O : Addr → Prop} {H : Hp} {a : Addr} {as : List Addr} {dss : List (List PyData)} (h : Grid H a as dss) (n : ∀ b, b = a ∨ b ∈ as → ¬ O b) : Is O H (.ref a) (gridD dss) := by
  refine .lst (n a (.inl rfl)) h.top ?_
  have go : ∀ (as : List Addr) (dss : List (List PyData)), as.length = dss.length → (∀ b, b ∈ as → ¬ O b) → (∀ (i : Nat) (p : Addr) (ds : List PyData), as[i]? = some p → dss[i]? = some ds → GridAt H p ds) → IsAll O H (as.map V.ref) (dss.map .list) := by
    intro as
    induction as with
    | nil =>
      intro dss l _ _
      cases dss with
      | nil => exact .nil
      | cons d dss => cases l
    | cons p as ih =>
      intro dss l n r
      cases dss with
      | nil => cases l
      | cons d dss =>
        obtain ⟨xs, e, i, f⟩ := r 0 p d rfl rfl
        exact .cons (.lst (n p (List.mem_cons_self ..)) e (i.flat_any f)) (ih dss (by simpa using l) (fun b hb => n b (List.mem_cons_of_mem _ hb)) fun i p ds h1 h2 => r (i + 1) p ds (by simpa using h1) (by simpa using h2))
  exact go as dss h.len (fun b hb => n b (.inr hb)) h.row
theorem Grid.trk {H : Hp} {a : Addr} {as : List Addr} {dss : List (List PyData)} (h : Grid H a as dss) {b : Addr} (hb : b = a ∨ b ∈ as) : ∃ o, H b = some o ∧ isTup o = false := by
  rcases hb with rfl | hb
  · exact ⟨_, h.top, rfl⟩
  · obtain ⟨i, hi⟩ := List.getElem?_of_mem hb
    have l := (List.getElem?_eq_some_iff.mp hi).1
    rw [h.len] at l
    obtain ⟨xs, e, _⟩ := h.row i b _ hi (List.getElem?_eq_getElem l)
    exact ⟨_, e, rfl⟩
/-! ### the names' values as data -/
inductive Cell where
  /-- data that is written no more -/
  | val (d : PyData)
  /-- the def's own container at a: no one else holds it -/
  | own (a : Addr) (d : PyData)
  /-- data of its own: all its lists and dicts stand at P, no one else holds them -/
  | deep (P : Addr → Prop) (d : PyData)
  /-- a dict that is locked: read, not written, while it is walked -/
  | lck (a : Addr) (d : PyData)
  /-- a list of lists of its own, one by one -/
  | grid (a : Addr) (as : List Addr) (dss : List (List PyData))
abbrev DEnv := List (Option Cell)
/-- where a cell's own containers stand -/
def cellA : Cell → Addr → Prop
  | .val _, _ => False
  | .own a _, b => b = a
  | .deep P _, b => P b
  | .lck _ _, _ => False
  | .grid a as _, b => b = a ∨ b ∈ as
/-- O: the callers' own containers; H0: the heap at the entry; mu: the containers that the def may write though it did not make them -/
structure Bs where
  O : Addr → Prop
  H0 : Hp
  mu : Addr → Prop
def owns (ρ : DEnv) (a : Addr) : Prop := ∃ (i : Nat) (c : Cell), ρ[i]? = some (some c) ∧ cellA c a
def OW (B : Bs) (ρ : DEnv) (a : Addr) : Prop := B.O a ∨ owns ρ a
/-- what an own container holds -/
inductive Hold (O : Addr → Prop) (H : Hp) : HO → PyData → Prop
  | lst {xs : List V} {ds : List PyData} : IsAll O H xs ds → Hold O H (.lst xs) (.list ds)
  | dK {kvs : List (Key × V)} {es : List (PyData × PyData)} : IsK O H kvs es → Hold O H (.dK kvs) (.dict es)
  | dT {kvs : List (List Key × V)} {es : List (PyData × PyData)} : IsT O H kvs es → Hold O H (.dT kvs) (.dict ((.none, .none) :: es))
theorem Hold.mono {O O' : Addr → Prop} {H H' : Hp} {u : HO} {d : PyData} (m : Adv O O' H H') (h : Hold O H u d) : Hold O' H' u d := by
  cases h with
  | lst r => exact .lst (r.mono m)
  | dK r => exact .dK (r.mono m)
  | dT r => exact .dT (r.mono m)
theorem Hold.nt {O : Addr → Prop} {H : Hp} {u : HO} {d : PyData} (h : Hold O H u d) : isTup u = false := by
  cases h <;> rfl
/-- what stands at an own address -/
def Top (O : Addr → Prop) (H : Hp) (a : Addr) (d : PyData) : Prop := ∃ u, H a = some u ∧ Hold O H u d
theorem Top.trk {O : Addr → Prop} {H : Hp} {a : Addr} {d : PyData} (h : Top O H a d) : ∃ o, H a = some o ∧ isTup o = false := by
  obtain ⟨u, e, h⟩ := h
  exact ⟨u, e, h.nt⟩
/-- the container itself is as it was -/
theorem Top.mono {O O' : Addr → Prop} {H H' : Hp} {a : Addr} {d : PyData} (m : Adv O O' H H') (e : H' a = H a) (h : Top O H a d) : Top O' H' a d := by
  obtain ⟨u, q, h⟩ := h
  exact ⟨u, e.trans q, h.mono m⟩
theorem Top.is {O : Addr → Prop} {H : Hp} {a : Addr} {d : PyData} (n : ¬ O a) (h : Top O H a d) : Is O H (.ref a) d := by
  obtain ⟨u, q, h⟩ := h
  cases h with
  | lst r => exact .lst n q r
  | dK r => exact .dK n (.inl q) r
  | dT r => exact .dT n (.inl q) r


/-- a locked dict -/
def Lk (O : Addr → Prop) (H : Hp) (a : Addr) (d : PyData) : Prop := ¬ O a ∧ ((∃ o kvs es, d = .dict es ∧ H a = some (.frz o (.dK kvs)) ∧ IsK O H kvs es) ∨ (∃ o kvs es, d = .dict ((.none, .none) :: es) ∧ H a = some (.frz o (.dT kvs)) ∧ IsT O H kvs es))
theorem Lk.mono {O O' : Addr → Prop} {H H' : Hp} {a : Addr} {d : PyData} (m : Adv O O' H H') (h : Lk O H a d) : Lk O' H' a d := by
  obtain ⟨n, h⟩ := h
  rcases h with ⟨o, kvs, es, e, h1, h2⟩ | ⟨o, kvs, es, e, h1, h2⟩
  · exact ⟨m.2 _ _ h1 n, .inl ⟨o, kvs, es, e, m.1 _ _ h1 (.inl n), h2.mono m⟩⟩
  · exact ⟨m.2 _ _ h1 n, .inr ⟨o, kvs, es, e, m.1 _ _ h1 (.inl n), h2.mono m⟩⟩
theorem Lk.is {O : Addr → Prop} {H : Hp} {a : Addr} {d : PyData} (h : Lk O H a d) : Is O H (.ref a) d := by
  obtain ⟨n, h⟩ := h
  rcases h with ⟨o, kvs, es, rfl, h1, h2⟩ | ⟨o, kvs, es, rfl, h1, h2⟩
  · exact .dK n (.inr ⟨o, h1⟩) h2
  · exact .dT n (.inr ⟨o, h1⟩) h2
def CellIs (O : Addr → Prop) (H : Hp) (v : V) : Cell → Prop
  | .val d => Is O H v d
  | .own a d => v = .ref a ∧ Top O H a d
  | .deep P d => Is (fun b => ¬ P b) H v d
  | .lck a d => v = .ref a ∧ Lk O H a d
  | .grid a as dss => v = .ref a ∧ Grid H a as dss
theorem CellIs.mono {O O' : Addr → Prop} {H H' : Hp} {v : V} {c : Cell} (m : Adv O O' H H') (k : ∀ a o, cellA c a → H a = some o → H' a = some o) (t : ∀ a o, H a = some o → isTup o = true → H' a = some o) (h : CellIs O H v c) : CellIs O' H' v c := by
  cases c with
  | val d => exact Is.mono m h
  | own a d =>
    obtain ⟨h1, u, h2, h3⟩ := h
    exact ⟨h1, u, k a u rfl h2, h3.mono m⟩
  | deep P d =>
    refine Is.mono (O := fun b => ¬ P b) (O' := fun b => ¬ P b) ⟨fun b o e z => ?_, fun b o e z => z⟩ h
    rcases z with z | z
    · exact k b o (Classical.byContradiction z) e
    · exact t b o e z
  | lck a d => exact ⟨h.1, h.2.mono m⟩
  | grid a as dss => exact ⟨h.1, h.2.mono (fun b o z e => k b o z e) t⟩

structure Rep (B : Bs) (ρ : DEnv) (σ : L2.St) (H : Hp) : Prop where
  len : ρ.length = σ.length
  trk : ∀ a, B.O a → ∃ o, H a = some o ∧ isTup o = false
  cel : ∀ (i : Nat) (c : Cell), ρ[i]? = some (some c) → ∃ v, σ[i]? = some (some v) ∧ CellIs (OW B ρ) H v c
  adr : ∀ (i : Nat) (c : Cell) (a : Addr), ρ[i]? = some (some c) → cellA c a → (∃ o, H a = some o ∧ isTup o = false) ∧ ¬ B.O a ∧ (B.mu a ∨ B.H0 a = none)
  inj : ∀ (i j : Nat) (c c' : Cell) (a : Addr), ρ[i]? = some (some c) → ρ[j]? = some (some c') → cellA c a → cellA c' a → i = j
  keep : ∀ b o, B.H0 b = some o → ¬ B.mu b → H b = some o
section
variable {B : Bs} {ρ : DEnv} {σ : L2.St} {H H' : Hp}
theorem Rep.ow (R : Rep B ρ σ H) {a : Addr} (h : OW B ρ a) : ∃ o, H a = some o ∧ isTup o = false := by
  rcases h with h | ⟨i, c, h, z⟩
  · exact R.trk a h
  · exact (R.adr i c a h z).1
/-- a new address is no own one -/
theorem Rep.new (R : Rep B ρ σ H) {p : Addr} (h : H p = none) : ¬ OW B ρ p := fun z => by
  obtain ⟨o, e, _⟩ := R.ow z
  rw [h] at e; cases e
theorem Rep.val (R : Rep B ρ σ H) (i : Nat) (d : PyData) (h : ρ[i]? = some (some (.val d))) : ∃ v, σ[i]? = some (some v) ∧ Is (OW B ρ) H v d := R.cel i _ h
theorem Rep.own (R : Rep B ρ σ H) (i : Nat) (a : Addr) (d : PyData) (h : ρ[i]? = some (some (.own a d))) : σ[i]? = some (some (.ref a)) ∧ ¬ B.O a ∧ Top (OW B ρ) H a d ∧ (B.mu a ∨ B.H0 a = none) := by
  obtain ⟨v, h1, h2, h3⟩ := R.cel i _ h
  subst h2
  obtain ⟨_, h4, h5⟩ := R.adr i _ a h rfl
  exact ⟨h1, h4, h3, h5⟩
/-- a new object that is no own container -/
theorem Adv.new {O : Addr → Prop} {p : Addr} {u : HO} (h : H p = none) : Adv O O H (upd H p u) := by
  refine ⟨fun b o e _ => ?_, fun _ _ _ k => k⟩
  rw [upd_ne (ne_of_none e h)]
  exact e
theorem same_new {p : Addr} {u : HO} (h : H p = none) : Same H (upd H p u) := fun b o e => by
  rw [upd_ne (ne_of_none e h)]
  exact e
theorem Adv.same {O : Addr → Prop} (s : Same H H') : Adv O O H H' := ⟨fun b o e _ => s b o e, fun _ _ _ k => k⟩
/-- all that was tracked stands: the state is told as before -/
theorem Rep.same (R : Rep B ρ σ H) (s : Same H H') : Rep B ρ σ H' := by
  refine ⟨R.len, fun a h => ?_, fun i c e => ?_, fun i c a h z => ?_, R.inj, fun b o e n => s _ _ (R.keep b o e n)⟩
  · obtain ⟨o, e, t⟩ := R.trk a h
    exact ⟨o, s _ _ e, t⟩
  · obtain ⟨v, h1, h2⟩ := R.cel i c e
    exact ⟨v, h1, h2.mono (.same s) (fun a o _ e => s _ _ e) fun a o e _ => s _ _ e⟩
  · obtain ⟨⟨o, e, t⟩, h2⟩ := R.adr i c a h z
    exact ⟨⟨o, s _ _ e, t⟩, h2⟩

theorem get_set_cases {α : Type} {l : List (Option α)} {i j : Nat} {x : Option α} {y : α} (h : (l.set i x)[j]? = some (some y)) : (j = i ∧ x = some y ∧ i < l.length) ∨ (j ≠ i ∧ l[j]? = some (some y)) := by
  by_cases e : j = i
  · subst e
    by_cases hl : j < l.length
    · rw [List.getElem?_set_self hl] at h
      exact .inl ⟨rfl, Option.some.inj h, hl⟩
    · rw [List.getElem?_eq_none (by rw [List.length_set]; omega)] at h
      cases h
  · rw [List.getElem?_set_ne (Ne.symm e)] at h
    exact .inr ⟨e, h⟩
theorem owns_set {i : Nat} {c : Option Cell} {a : Addr} (h : owns (ρ.set i c) a) : (∃ d, c = some d ∧ cellA d a) ∨ owns ρ a := by
  obtain ⟨j, d, e, z⟩ := h
  rcases get_set_cases e with ⟨_, e1, _⟩ | ⟨_, e1⟩
  · exact .inl ⟨d, e1, z⟩
  · exact .inr ⟨j, d, e1, z⟩
/-- a cell is set; H' is H but at addresses of the new cell -/
theorem Rep.setCell (R : Rep B ρ σ H) {i : Nat} {v : V} {c : Cell} (m : Adv (OW B ρ) (OW B (ρ.set i (some c))) H H') (h : CellIs (OW B (ρ.set i (some c))) H' v c)
    (hO : ∀ a o, B.O a → H a = some o → H' a = some o) (hk : ∀ b o, B.H0 b = some o → ¬ B.mu b → H b = some o → H' b = some o)
    (ha : ∀ a, cellA c a → (∃ o, H' a = some o ∧ isTup o = false) ∧ ¬ B.O a ∧ (B.mu a ∨ B.H0 a = none)) (hd : ∀ (j : Nat) (c' : Cell) (a : Addr), j ≠ i → ρ[j]? = some (some c') → cellA c' a → ¬ cellA c a)
    (ht : ∀ a o, H a = some o → isTup o = true → H' a = some o) (he : ∀ (j : Nat) (c' : Cell) (a : Addr) (o : HO), j ≠ i → ρ[j]? = some (some c') → cellA c' a → H a = some o → H' a = some o) :
    Rep B (ρ.set i (some c)) (σ.set i (some v)) H' := by
  refine ⟨by rw [List.length_set, List.length_set]; exact R.len, fun a h => ?_, fun j c' hj => ?_, fun j c' a hj z => ?_, fun j k c1 c2 a hj hk z1 z2 => ?_, fun b o e n => hk b o e n (R.keep b o e n)⟩
  · obtain ⟨o, e, t⟩ := R.trk a h
    exact ⟨o, hO a o h e, t⟩
  · rcases get_set_cases hj with ⟨rfl, e1, hl⟩ | ⟨ne, hj1⟩
    · cases e1
      exact ⟨v, by rw [List.getElem?_set_self (by rw [← R.len]; exact hl)], h⟩
    · obtain ⟨w, h1, h2⟩ := R.cel j c' hj1
      exact ⟨w, by rw [List.getElem?_set_ne (Ne.symm ne)]; exact h1, h2.mono m (fun a o z e => he j c' a o ne hj1 z e) ht⟩
  · rcases get_set_cases hj with ⟨rfl, e1, hl⟩ | ⟨ne, hj1⟩
    · cases e1
      exact ha a z
    · obtain ⟨⟨o, e, t⟩, h2⟩ := R.adr j c' a hj1 z
      exact ⟨⟨o, he j c' a o ne hj1 z e, t⟩, h2⟩
  · rcases get_set_cases hj with ⟨rfl, e1, hl⟩ | ⟨ne, hj1⟩
    · cases e1
      rcases get_set_cases hk with ⟨rfl, e1, hl⟩ | ⟨ne', hk1⟩
      · rfl
      · exact absurd z1 (hd k c2 a ne' hk1 z2)
    · rcases get_set_cases hk with ⟨rfl, e1, hl⟩ | ⟨ne', hk1⟩
      · cases e1
        exact absurd z2 (hd j c1 a ne hj1 z1)
      · exact R.inj j k c1 c2 a hj1 hk1 z1 z2
/-- a name is given data -/
theorem Rep.setVal (R : Rep B ρ σ H) {i : Nat} {v : V} {d : PyData} (h : Is (OW B ρ) H v d) :
    Rep B (ρ.set i (some (.val d))) (σ.set i (some v)) H ∧ Adv (OW B ρ) (OW B (ρ.set i (some (.val d)))) H H := by
  have sub : ∀ a, OW B (ρ.set i (some (.val d))) a → OW B ρ a := fun a z => z.elim .inl fun z => (owns_set z).elim (fun ⟨_, e, z⟩ => by cases e; exact z.elim) .inr
  have m := Adv.sub (H := H) sub
  exact ⟨R.setCell m (h.mono m) (fun _ _ _ e => e) (fun _ _ _ _ e => e) (fun a z => z.elim) (fun _ _ _ _ _ _ z => z) (fun _ _ e _ => e) (fun _ _ _ _ _ _ _ e => e), m⟩
/-- a name loses its value (it is not asked any more) -/
theorem Rep.wipe (R : Rep B ρ σ H) {i : Nat} (x : Option V) : Rep B (ρ.set i none) (σ.set i x) H ∧ Adv (OW B ρ) (OW B (ρ.set i none)) H H := by
  have sub : ∀ a, OW B (ρ.set i none) a → OW B ρ a := fun a z => z.elim .inl fun z => (owns_set z).elim (fun ⟨_, e, z⟩ => by cases e) .inr
  have m := Adv.sub (H := H) sub
  refine ⟨⟨by rw [List.length_set, List.length_set]; exact R.len, R.trk, fun j c hj => ?_, fun j c a hj z => ?_, fun j k c1 c2 a hj hk z1 z2 => ?_, R.keep⟩, m⟩
  · rcases get_set_cases hj with ⟨rfl, e1, hl⟩ | ⟨ne, hj1⟩
    · cases e1
    · obtain ⟨w, h1, h2⟩ := R.cel j c hj1
      exact ⟨w, by rw [List.getElem?_set_ne (Ne.symm ne)]; exact h1, h2.mono m (fun _ _ _ e => e) fun _ _ e _ => e⟩
  · rcases get_set_cases hj with ⟨rfl, e1, hl⟩ | ⟨ne, hj1⟩
    · cases e1
    · exact R.adr j c a hj1 z
  · rcases get_set_cases hj with ⟨rfl, e1, hl⟩ | ⟨ne, hj1⟩
    · cases e1
    · rcases get_set_cases hk with ⟨rfl, e1, hl⟩ | ⟨ne', hk1⟩
      · cases e1
      · exact R.inj j k c1 c2 a hj1 hk1 z1 z2
theorem set_same {α : Type} : ∀ {l : List α} {i : Nat} {x : α}, l[i]? = some x → l.set i x = l
  | [], i, x, h => by simp at h
  | y :: l, 0, x, h => by
    cases h
    rfl
  | y :: l, i + 1, x, h => by
    rw [List.set_cons_succ, set_same (l := l) (by simpa using h)]
/-- own containers are written no more -/
theorem Rep.freeze (R : Rep B ρ σ H) {i : Nat} {c : Cell} {v : V} {d : PyData} (h : ρ[i]? = some (some c)) (hv : σ[i]? = some (some v)) (is : Is (fun b => OW B ρ b ∧ ¬ cellA c b) H v d) :
    Rep B (ρ.set i (some (.val d))) σ H ∧ Is (OW B (ρ.set i (some (.val d)))) H v d ∧ Adv (OW B ρ) (OW B (ρ.set i (some (.val d)))) H H := by
  have sub : ∀ a, OW B (ρ.set i (some (.val d))) a → OW B ρ a ∧ ¬ cellA c a := fun a z => by
    rcases z with z | ⟨j, c', e, z⟩
    · exact ⟨.inl z, fun y => (R.adr i c a h y).2.1 z⟩
    · rcases get_set_cases e with ⟨rfl, e1, hl⟩ | ⟨ne, hj1⟩
      · cases e1; exact z.elim
      · exact ⟨.inr ⟨j, c', hj1, z⟩, fun y => ne (R.inj j i c' c a hj1 h z y)⟩
  have m := Adv.sub (H := H) fun a z => (sub a z).1
  have is' : Is (OW B (ρ.set i (some (.val d)))) H v d := is.mono (Adv.sub sub)
  have R' := R.setCell (i := i) (v := v) (c := .val d) m is' (fun _ _ _ e => e) (fun _ _ _ _ e => e) (fun a z => z.elim) (fun _ _ _ _ _ _ z => z) (fun _ _ e _ => e) (fun _ _ _ _ _ _ _ e => e)
  rw [set_same hv] at R'
  exact ⟨R', is', m⟩
/-- the container at i is written (by a call, perhaps): what stands there now is data outside the own ones -/
theorem Rep.writeBy (R : Rep B ρ σ H) {i : Nat} {a : Addr} {d d' : PyData} (h : ρ[i]? = some (some (.own a d))) (kp : ∀ b o, H b = some o → b ≠ a → H' b = some o)
    (t : Top (OW B ρ) H' a d') : Rep B (ρ.set i (some (.own a d'))) σ H' ∧ Adv (OW B ρ) (OW B (ρ.set i (some (.own a d')))) H H' := by
  obtain ⟨g1, g2, g3, g4⟩ := R.own i a d h
  have oa : OW B ρ a := .inr ⟨i, _, h, rfl⟩
  have sub : ∀ b, OW B (ρ.set i (some (.own a d'))) b → OW B ρ b := fun b z => z.elim .inl fun z => (owns_set z).elim (fun ⟨_, e, z⟩ => by cases e; cases (show b = a from z); exact oa) .inr
  have nt : ∀ b o, H b = some o → isTup o = true → b ≠ a := fun b o e k z => by
    subst z
    obtain ⟨o', e', t'⟩ := g3.trk
    rw [e] at e'; cases e'; rw [k] at t'; cases t'
  have m : Adv (OW B ρ) (OW B (ρ.set i (some (.own a d')))) H H' := by
    refine ⟨fun b o e k => ?_, fun b o e k z => k (sub b z)⟩
    have ne : b ≠ a := by
      rintro rfl
      rcases k with k | k
      · exact k oa
      · exact nt _ o e k rfl
    exact kp b o e ne
  have R' := R.setCell (i := i) (v := .ref a) (c := .own a d') m ⟨rfl, t.mono (Adv.sub sub) rfl⟩ (fun b o z e => kp b o e fun y => g2 (y ▸ z)) (fun b o e n q => kp b o q fun y => ?_)
    (fun b z => ?_) (fun j c' b ne hj z y => ?_) (fun b o e k => kp b o e (nt b o e k)) (fun j c' b o ne hj z e => kp b o e fun y => ?_)
  · rw [set_same g1] at R'
    exact ⟨R', m⟩
  · subst y
    rcases g4 with z | z
    · exact n z
    · rw [z] at e; cases e
  · cases (show b = a from z)
    exact ⟨t.trk, g2, g4⟩
  · cases (show b = a from y)
    exact ne (R.inj j i c' _ _ hj h z rfl)
  · subst y
    exact ne (R.inj j i c' _ _ hj h z rfl)
theorem Rep.write (R : Rep B ρ σ H) {i : Nat} {a : Addr} {d d' : PyData} {u : HO} (h : ρ[i]? = some (some (.own a d)))
    (t : Hold (OW B ρ) H u d') : Rep B (ρ.set i (some (.own a d'))) σ (upd H a u) ∧ Adv (OW B ρ) (OW B (ρ.set i (some (.own a d')))) H (upd H a u) := by
  have kp : ∀ b o, H b = some o → b ≠ a → upd H a u b = some o := fun b o e ne => by rw [upd_ne ne]; exact e
  have oa : OW B ρ a := .inr ⟨i, _, h, rfl⟩
  have m : Adv (OW B ρ) (OW B ρ) H (upd H a u) := by
    refine ⟨fun b o e k => kp b o e ?_, fun _ _ _ k => k⟩
    rintro rfl
    rcases k with k | k
    · exact k oa
    · obtain ⟨o', e', t'⟩ := R.ow oa
      rw [e] at e'; cases e'; rw [k] at t'; cases t'
  exact R.writeBy h kp ⟨u, upd_same, t.mono m⟩
/-- those at P too are own containers, of no name -/
def Bs.more (B : Bs) (P : Addr → Prop) : Bs := { B with O := fun b => B.O b ∨ P b }
abbrev Bs.plus (B : Bs) (p : Addr) : Bs := B.more (· = p)
/-- new containers that no name holds yet -/
theorem Rep.freshen (R : Rep B ρ σ H) {P : Addr → Prop} (hs : Same H H') (hp : ∀ p, P p → H p = none ∧ ∃ o, H' p = some o ∧ isTup o = false) :
    Rep (B.more P) ρ σ H' ∧ Adv (OW B ρ) (OW (B.more P) ρ) H H' := by
  have m : Adv (OW B ρ) (OW (B.more P) ρ) H H' := by
    refine ⟨fun b o e k => hs b o e, fun b o e k z => ?_⟩
    rcases z with (z | z) | z
    · exact k (.inl z)
    · have := (hp b z).1; rw [e] at this; cases this
    · exact k (.inr z)
  refine ⟨⟨R.len, fun a h => ?_, fun i c h => ?_, fun i c a h z => ?_, R.inj, fun b o e n => hs _ _ (R.keep b o e n)⟩, m⟩
  · rcases h with h | h
    · obtain ⟨o, e, tt⟩ := R.trk a h
      exact ⟨o, hs _ _ e, tt⟩
    · exact (hp a h).2
  · obtain ⟨w, h1, h2⟩ := R.cel i c h
    exact ⟨w, h1, h2.mono m (fun a o _ e => hs _ _ e) fun a o e _ => hs _ _ e⟩
  · obtain ⟨⟨o, e, t⟩, h2, h3⟩ := R.adr i c a h z
    exact ⟨⟨o, hs _ _ e, t⟩, fun y => y.elim h2 fun y => (by have := (hp a y).1; rw [e] at this; cases this), h3⟩
theorem Rep.fresh (R : Rep B ρ σ H) {p : Addr} {u : HO} {d : PyData} (hp : H p = none) (t : Hold (OW B ρ) H u d) :
    Rep (B.plus p) ρ σ (upd H p u) ∧ Top (OW (B.plus p) ρ) (upd H p u) p d ∧ Adv (OW B ρ) (OW (B.plus p) ρ) H (upd H p u) := by
  obtain ⟨R', m⟩ := R.freshen (P := (· = p)) (same_new (u := u) hp) fun q e => by
    cases (show q = p from e)
    exact ⟨hp, u, upd_same, t.nt⟩
  exact ⟨R', ⟨u, upd_same, t.mono m⟩, m⟩
/-- .. and a name is given them -/
theorem Rep.adoptC {P : Addr → Prop} (R : Rep (B.more P) ρ σ H) {i : Nat} {v : V} {c : Cell} (hc : ∀ a, cellA c a → P a) (t : CellIs (OW (B.more P) ρ) H v c) (hp : ∀ p, cellA c p → ¬ B.O p ∧ (B.mu p ∨ B.H0 p = none)) :
    Rep B (ρ.set i (some c)) (σ.set i (some v)) H ∧ Adv (OW (B.more P) ρ) (OW B (ρ.set i (some c))) H H := by
  have sub : ∀ a, OW B (ρ.set i (some c)) a → OW (B.more P) ρ a := fun a z => z.elim (fun z => .inl (.inl z)) fun z => (owns_set z).elim (fun ⟨_, e, z⟩ => by cases e; exact .inl (.inr (hc a z))) .inr
  have m := Adv.sub (H := H) sub
  have m2 : Adv (OW (B.more P) ρ) (OW B ρ) H H := Adv.sub fun a z => z.elim (fun z => .inl (.inl z)) .inr
  have R0 : Rep B ρ σ H := ⟨R.len, fun a h => R.trk a (.inl h), fun j c' h => let ⟨w, h1, h2⟩ := R.cel j c' h; ⟨w, h1, h2.mono m2 (fun _ _ _ e => e) fun _ _ e _ => e⟩,
    fun j c' a h z => let ⟨h1, h2, h3⟩ := R.adr j c' a h z; ⟨h1, fun y => h2 (.inl y), h3⟩, R.inj, R.keep⟩
  have np : ∀ (j : Nat) (c' : Cell) (a : Addr), ρ[j]? = some (some c') → cellA c' a → ¬ P a := fun j c' a h z y => (R.adr j c' a h z).2.1 (.inr y)
  have m3 : Adv (OW B ρ) (OW B (ρ.set i (some c))) H H → True := fun _ => trivial
  refine ⟨⟨by rw [List.length_set, List.length_set]; exact R.len, R0.trk, fun j c' hj => ?_, fun j c' a hj z => ?_, fun j k c1 c2 a hj hk z1 z2 => ?_, R.keep⟩, m⟩
  · rcases get_set_cases hj with ⟨rfl, e1, hl⟩ | ⟨ne, hj1⟩
    · cases e1
      exact ⟨v, by rw [List.getElem?_set_self (by rw [← R.len]; exact hl)], t.mono m (fun _ _ _ e => e) fun _ _ e _ => e⟩
    · obtain ⟨w, h1, h2⟩ := R.cel j c' hj1
      exact ⟨w, by rw [List.getElem?_set_ne (Ne.symm ne)]; exact h1, h2.mono m (fun _ _ _ e => e) fun _ _ e _ => e⟩
  · rcases get_set_cases hj with ⟨rfl, e1, hl⟩ | ⟨ne, hj1⟩
    · cases e1
      exact ⟨R.trk a (.inr (hc a z)), hp a z⟩
    · exact R0.adr j c' a hj1 z
  · rcases get_set_cases hj with ⟨rfl, e1, hl⟩ | ⟨ne, hj1⟩
    · cases e1
      rcases get_set_cases hk with ⟨rfl, e1, hl⟩ | ⟨ne', hk1⟩
      · rfl
      · exact absurd (hc a z1) (np k c2 a hk1 z2)
    · rcases get_set_cases hk with ⟨rfl, e1, hl⟩ | ⟨ne', hk1⟩
      · cases e1
        exact absurd (hc a z2) (np j c1 a hj1 z1)
      · exact R.inj j k c1 c2 a hj1 hk1 z1 z2
theorem Rep.adopt {p : Addr} (R : Rep (B.plus p) ρ σ H) {i : Nat} {d : PyData} (t : Top (OW (B.plus p) ρ) H p d) (n : ¬ B.O p) (hm : B.mu p ∨ B.H0 p = none) :
    Rep B (ρ.set i (some (.own p d))) (σ.set i (some (.ref p))) H ∧ Adv (OW (B.plus p) ρ) (OW B (ρ.set i (some (.own p d)))) H H :=
  R.adoptC (fun a z => z) ⟨rfl, t⟩ fun q z => by
    cases (show q = p from z)
    exact ⟨n, hm⟩
/-- .. or no name is -/
theorem Rep.drop {P : Addr → Prop} (R : Rep (B.more P) ρ σ H) : Rep B ρ σ H ∧ Adv (OW (B.more P) ρ) (OW B ρ) H H := by
  have m2 : Adv (OW (B.more P) ρ) (OW B ρ) H H := Adv.sub fun a z => z.elim (fun z => .inl (.inl z)) .inr
  exact ⟨⟨R.len, fun a h => R.trk a (.inl h), fun j c' h => let ⟨w, h1, h2⟩ := R.cel j c' h; ⟨w, h1, h2.mono m2 (fun _ _ _ e => e) fun _ _ e _ => e⟩,
    fun j c' a h z => let ⟨h1, h2, h3⟩ := R.adr j c' a h z; ⟨h1, fun y => h2 (.inl y), h3⟩, R.inj, R.keep⟩, m2⟩
/-- what is new now was not there at the entry, or may be written -/
theorem Rep.entry (R : Rep B ρ σ H) {p : Addr} (hp : H p = none) : ¬ B.O p ∧ (B.mu p ∨ B.H0 p = none) := by
  refine ⟨fun z => R.new hp (.inl z), ?_⟩
  by_cases hm : B.mu p
  · exact .inl hm
  · refine .inr ?_
    cases q : B.H0 p with
    | none => rfl
    | some o =>
      have := R.keep p o q hm
      rw [hp] at this; cases this
end
end DL
namespace DL
open PySem PySem.Spec PyProof.Rows L2

/-! ### texts as lists of signs -/
def L (x : Str) : List Nat := x.cps.toList
def mk (l : List Nat) : Str := ⟨l.toArray⟩
abbrev S (l : List Nat) : PyData := .str (mk l)
theorem L_mk (l : List Nat) : L (mk l) = l := rfl
theorem mk_L (x : Str) : mk (L x) = x := by
  cases x
  rfl
theorem L_len (x : Str) : (L x).length = x.length := by
  show x.cps.toList.length = x.cps.size
  rw [Array.length_toList]
theorem L_app (x y : Str) : mk (L x ++ L y) = x ++ y := by
  have e : L (x ++ y) = L x ++ L y := by
    show (x.cps ++ y.cps).toList = _
    rw [Array.toList_append]
    rfl
  rw [← e, mk_L]
theorem mk_inj {l m : List Nat} (h : mk l = mk m) : l = m := congrArg L h

/-! ### operands, readings on data -/
/-- an operand: data, or what the name at a place holds -/
inductive OV where
  | vl (d : PyData)
  | nm (i : Nat)
/-- read -/
def OV.rd (o : OV) (ρ : DEnv) (k : PyData → Prop) : Prop := match o with
  | .vl d => k d
  | .nm i => match ρ[i]? with
    | some (some (.val d)) => k d
    | some (some (.own _ d)) => k d
    | some (some (.lck _ d)) => k d
    | _ => False
/-- handed on: an own container is written no more from here on -/
def OV.tk (o : OV) (ρ : DEnv) (k : PyData → DEnv → Prop) : Prop := match o with
  | .vl d => k d ρ
  | .nm i => match ρ[i]? with
    | some (some (.val d)) => k d ρ
    | some (some (.own _ d)) => k d (ρ.set i (some (.val d)))
    | some (some (.deep _ d)) => k d (ρ.set i (some (.val d)))
    | some (some (.lck _ d)) => k d ρ
    | some (some (.grid _ _ dss)) => k (gridD dss) (ρ.set i (some (.val (gridD dss))))
    | _ => False
/-- looked at as a whole -/
def OV.rdx (o : OV) (ρ : DEnv) (k : PyData → Prop) : Prop := match o with
  | .vl d => k d
  | .nm i => match ρ[i]? with
    | some (some (.val d)) => k d
    | some (some (.own _ d)) => k d
    | some (some (.deep _ d)) => k d
    | some (some (.lck _ d)) => k d
    | some (some (.grid _ _ dss)) => k (gridD dss)
    | _ => False
abbrev DT := DEnv → (OV → DEnv → Prop) → Prop
def OIs (B : Bs) (ρ : DEnv) (σ : L2.St) (H : Hp) (v : V) : OV → Prop
  | .vl d => Is (OW B ρ) H v d
  | .nm i => σ[i]? = some (some v)
/-- data that is looked at as a whole -/
def RdX (H : Hp) (v : V) (d : PyData) : Prop := ∃ O, Is O H v d
/-- data that is read: an own container's too -/
def RdB (O : Addr → Prop) (H : Hp) (v : V) (d : PyData) : Prop := Is O H v d ∨ ∃ a, v = .ref a ∧ Top O H a d
def upO (t : DT) : TE := fun σ H Q => ∃ B ρ q, Rep B ρ σ H ∧ t ρ q ∧ ∀ o ρ' v H', q o ρ' → Adv (OW B ρ) (OW B ρ') H H' → Rep B ρ' σ H' → OIs B ρ' σ H' v o → Q v H'
abbrev DO (X : Cx) (e : Expr) (t : DT) : Prop := PE X e (upO t)

theorem OIs.adv {B : Bs} {ρ ρ' : DEnv} {σ : L2.St} {H H' : Hp} {v : V} {o : OV} (h : OIs B ρ σ H v o) (m : Adv (OW B ρ) (OW B ρ') H H') : OIs B ρ' σ H' v o := by
  cases o with
  | vl d => exact Is.mono m h
  | nm i => exact h
theorem OIs.rd {B : Bs} {ρ : DEnv} {σ : L2.St} {H : Hp} {v : V} {o : OV} {k : PyData → Prop} (h : OIs B ρ σ H v o) (R : Rep B ρ σ H) (r : o.rd ρ k) : ∃ d, k d ∧ RdB (OW B ρ) H v d := by
  cases o with
  | vl d => exact ⟨d, r, .inl h⟩
  | nm i =>
    simp only [OV.rd] at r
    have h' : σ[i]? = some (some v) := h
    split at r
    · rename_i d e
      obtain ⟨w, e1, e2⟩ := R.val i d e
      rw [h'] at e1; cases e1
      exact ⟨d, r, .inl e2⟩
    · rename_i a d e
      obtain ⟨e1, e2, e3, _⟩ := R.own i a d e
      rw [h'] at e1; cases e1
      exact ⟨d, r, .inr ⟨a, rfl, e3⟩⟩
    · rename_i a d e
      obtain ⟨w, e1, e2, e3⟩ := R.cel i _ e
      rw [h'] at e1; cases e1
      subst e2
      exact ⟨d, r, .inl e3.is⟩
    · exact r.elim
theorem OIs.tk {B : Bs} {ρ : DEnv} {σ : L2.St} {H : Hp} {v : V} {o : OV} {k : PyData → DEnv → Prop} (h : OIs B ρ σ H v o) (R : Rep B ρ σ H) (r : o.tk ρ k) :
    ∃ d ρ', k d ρ' ∧ Is (OW B ρ') H v d ∧ Rep B ρ' σ H ∧ Adv (OW B ρ) (OW B ρ') H H := by
  cases o with
  | vl d => exact ⟨d, ρ, r, h, R, .refl⟩
  | nm i =>
    simp only [OV.tk] at r
    have h' : σ[i]? = some (some v) := h
    split at r
    · rename_i d e
      obtain ⟨w, e1, e2⟩ := R.val i d e
      rw [h'] at e1; cases e1
      exact ⟨d, ρ, r, e2, R, .refl⟩
    · rename_i a d e
      obtain ⟨e1, _, e3, _⟩ := R.own i a d e
      have e1' := e1
      rw [h'] at e1; cases e1
      have m : Adv (OW B ρ) (fun b => OW B ρ b ∧ ¬ cellA (.own a d) b) H H := Adv.sub fun _ z => z.1
      obtain ⟨f1, f2, f3⟩ := R.freeze e e1' ((e3.mono m rfl).is fun z => z.2 rfl)
      exact ⟨d, _, r, f2, f1, f3⟩
    · rename_i P d e
      obtain ⟨w, e1, e2⟩ := R.cel i _ e
      have e1' := e1
      rw [h'] at e1; cases e1
      have e3 : Is (fun b => ¬ P b) H v d := e2
      obtain ⟨f1, f2, f3⟩ := R.freeze e e1' (e3.mono (Adv.sub fun b z => z.2))
      exact ⟨d, _, r, f2, f1, f3⟩
    · rename_i a d e
      obtain ⟨w, e1, e2, e3⟩ := R.cel i _ e
      rw [h'] at e1; cases e1
      subst e2
      exact ⟨d, ρ, r, e3.is, R, .refl⟩
    · rename_i a as dss e
      obtain ⟨w, e1, e2, e3⟩ := R.cel i _ e
      have e1' := e1
      rw [h'] at e1; cases e1
      subst e2
      obtain ⟨f1, f2, f3⟩ := R.freeze e e1' (e3.is fun b z y => y.2 z)
      exact ⟨_, _, r, f2, f1, f3⟩
    · exact r.elim
theorem OIs.rdx {B : Bs} {ρ : DEnv} {σ : L2.St} {H : Hp} {v : V} {o : OV} {k : PyData → Prop} (h : OIs B ρ σ H v o) (R : Rep B ρ σ H) (r : o.rdx ρ k) : ∃ d, k d ∧ RdX H v d := by
  cases o with
  | vl d => exact ⟨d, r, _, h⟩
  | nm i =>
    simp only [OV.rdx] at r
    have h' : σ[i]? = some (some v) := h
    split at r
    · rename_i d e
      obtain ⟨w, e1, e2⟩ := R.val i d e
      rw [h'] at e1; cases e1
      exact ⟨d, r, _, e2⟩
    · rename_i a d e
      obtain ⟨e1, e2, e3, _⟩ := R.own i a d e
      rw [h'] at e1; cases e1
      have m : Adv (OW B ρ) (fun b => OW B ρ b ∧ b ≠ a) H H := Adv.sub fun _ z => z.1
      exact ⟨d, r, _, (e3.mono m rfl).is fun z => z.2 rfl⟩
    · rename_i P d e
      obtain ⟨w, e1, e2⟩ := R.cel i _ e
      rw [h'] at e1; cases e1
      exact ⟨d, r, _, e2⟩
    · rename_i a d e
      obtain ⟨w, e1, e2, e3⟩ := R.cel i _ e
      rw [h'] at e1; cases e1
      subst e2
      exact ⟨d, r, _, e3.is⟩
    · rename_i a as dss e
      obtain ⟨w, e1, e2, e3⟩ := R.cel i _ e
      rw [h'] at e1; cases e1
      subst e2
      exact ⟨_, r, fun _ => False, e3.is fun _ _ z => z⟩
    · exact r.elim

section
variable {O : Addr → Prop} {H : Hp} {v : V}
theorem RdB.non (h : RdB O H v .none) : v = .non := by
  rcases h with h | ⟨a, _, u, _, h⟩
  · cases h; rfl
  · cases h
theorem RdB.bl {b : Bool} (h : RdB O H v (.bool b)) : v = .bl b := by
  rcases h with h | ⟨a, _, u, _, h⟩
  · cases h; rfl
  · cases h
theorem RdB.int {i : Int} (h : RdB O H v (.int i)) : v = .int i := by
  rcases h with h | ⟨a, _, u, _, h⟩
  · cases h; rfl
  · cases h
theorem RdB.str {x : Str} (h : RdB O H v (.str x)) : v = .str x := by
  rcases h with h | ⟨a, _, u, _, h⟩
  · cases h; rfl
  · cases h
theorem RdB.lst {ds : List PyData} (h : RdB O H v (.list ds)) : ∃ a xs, v = .ref a ∧ H a = some (.lst xs) ∧ IsAll O H xs ds := by
  rcases h with h | ⟨a, rfl, u, e, h⟩
  · cases h with
    | lst n r t => exact ⟨_, _, rfl, r, t⟩
  · cases h with
    | lst t => exact ⟨_, _, rfl, e, t⟩
theorem RdB.tup {ds : List PyData} (h : RdB O H v (.tuple ds)) : ∃ a xs, v = .ref a ∧ H a = some (.tup xs) ∧ IsAll O H xs ds := by
  rcases h with h | ⟨a, rfl, u, e, h⟩
  · cases h with
    | tup r t => exact ⟨_, _, rfl, r, t⟩
  · cases h
theorem Is.int' {i : Int} (h : Is O H v (.int i)) : v = .int i := RdB.int (.inl h)
theorem Is.str' {x : Str} (h : Is O H v (.str x)) : v = .str x := RdB.str (.inl h)
theorem Is.bl' {b : Bool} (h : Is O H v (.bool b)) : v = .bl b := RdB.bl (.inl h)
theorem Is.lst' {ds : List PyData} (h : Is O H v (.list ds)) : ∃ a xs, v = .ref a ∧ H a = some (.lst xs) ∧ IsAll O H xs ds := RdB.lst (.inl h)
theorem Is.tup' {ds : List PyData} (h : Is O H v (.tuple ds)) : ∃ a xs, v = .ref a ∧ H a = some (.tup xs) ∧ IsAll O H xs ds := RdB.tup (.inl h)
end
/-- a value that tells its data in every heap -/
def Sc (z : V) (d : PyData) : Prop := ∀ O H, Is O H z d
theorem Sc.int (i : Int) : Sc (.int i) (.int i) := fun _ _ => .int i
theorem Sc.bl (b : Bool) : Sc (.bl b) (.bool b) := fun _ _ => .bl b
theorem Sc.str (x : Str) : Sc (.str x) (.str x) := fun _ _ => .str x
theorem Sc.non : Sc .non .none := fun _ _ => .non

/-- a weaker reading -/
theorem PE.imp {X : Cx} {e : Expr} {t t' : TE} (h : PE X e t) (i : ∀ σ H Q, t' σ H Q → t σ H Q) : PE X e t' := ⟨fun pins s σ H Q I hq => h.run pins s σ H Q I (i σ H Q hq)⟩
theorem PT.imp {X : Cx} {e : Expr} {t t' : TT} (h : PT X e t) (i : ∀ σ H Q, t' σ H Q → t σ H Q) : PT X e t' := ⟨fun pins s σ H Q I hq => h.run pins s σ H Q I (i σ H Q hq)⟩
theorem PA.imp {X : Cx} {e : List Expr} {t t' : TA} (h : PA X e t) (i : ∀ σ H Q, t' σ H Q → t σ H Q) : PA X e t' := ⟨fun ps pins s σ H Q I hq => h.run ps pins s σ H Q I (i σ H Q hq)⟩
theorem PS.imp {X : Cx} {e : Stmt} {t t' : TS} (h : PS X e t) (i : ∀ D σ H, t' D σ H → t D σ H) : PS X e t' := ⟨fun pins s σ H D I hq => h.run pins s σ H D I (i D σ H hq)⟩
theorem PSs.imp {X : Cx} {e : List Stmt} {t t' : TS} (h : PSs X e t) (i : ∀ D σ H, t' D σ H → t D σ H) : PSs X e t' := ⟨fun pins s σ H D I hq => h.run pins s σ H D I (i D σ H hq)⟩

theorem Rep.owt {B : Bs} {ρ : DEnv} {σ : L2.St} {H : Hp} (R : Rep B ρ σ H) : ∀ a, OW B ρ a → ∃ o, H a = some o := fun a h => let ⟨o, e, _⟩ := R.ow h; ⟨o, e⟩
section
variable {X : Cx} {a b c e : Expr} {ta tb tc : DT} {pos : Pos}
/-! ### names and constants -/
def dN (i : Nat) : DT := fun ρ q => match ρ[i]? with
  | some (some _) => q (.nm i) ρ
  | _ => False
theorem do_nm {i : Nat} {x : Str} (h : PE X (.Name x pos) (tVar i)) : DO X (.Name x pos) (dN i) :=
  PE.imp h fun σ H Q ⟨B, ρ, q, R, t, k⟩ => by
    unfold dN at t
    split at t
    · rename_i c e
      obtain ⟨w, e1, e2⟩ := R.cel i c e
      exact ⟨w, e1, k _ _ _ _ t .refl R e1⟩
    · exact t.elim
def dC (d : PyData) : DT := fun ρ q => q (.vl d) ρ
theorem do_c {z : V} {d : PyData} (h : PE X e (tC z)) (s : Sc z d) : DO X e (dC d) :=
  PE.imp h fun σ H Q ⟨B, ρ, q, R, t, k⟩ => k _ _ _ _ t .refl R (s _ _)
theorem do_int {i : Int} {j} : DO X (.Constant (.int i) j pos) (dC (.int i)) := do_c pe_int (Sc.int i)
theorem do_strL {x : Str} {j} (l : List Nat) (h : x = mk l) : DO X (.Constant (.str x) j pos) (dC (S l)) := by subst h; exact do_c pe_str (Sc.str _)
theorem do_str {x : Str} {j} : DO X (.Constant (.str x) j pos) (dC (.str x)) := do_c pe_str (Sc.str x)
theorem do_bl {x : Bool} {j} : DO X (.Constant (.bool x) j pos) (dC (.bool x)) := do_c pe_bl (Sc.bl x)
theorem do_non {j} : DO X (.Constant .none j pos) (dC .none) := do_c pe_non Sc.non

/-! ### two operands, a value out that lies nowhere -/
abbrev D2 := PyData → PyData → (PyData → Prop) → Prop
/-- r asks no more than g -/
def Fit2 (r : R2) (g : D2) : Prop := ∀ (O : Addr → Prop) (H : Hp) (x y : V) (d e : PyData) (q : PyData → Prop) (Q : VK), (∀ a, O a → ∃ o, H a = some o) → RdB O H x d → RdB O H y e → g d e q →
  (∀ z dz H', q dz → Same H H' → Is O H' z dz → Q z H') → r x y H Q
def d2 (g : D2) (ta tb : DT) : DT := fun ρ q => ta ρ fun oa ρ1 => tb ρ1 fun ob ρ2 => oa.rd ρ2 fun d => ob.rd ρ2 fun e => g d e fun r => q (.vl r) ρ2
theorem up2 {r : R2} {g : D2} (f : Fit2 r g) {σ : L2.St} {H : Hp} {Q : VK} (h : upO (d2 g ta tb) σ H Q) : tOp r (upO ta) (upO tb) σ H Q := by
  obtain ⟨B, ρ, q, R, t, k⟩ := h
  refine ⟨B, ρ, _, R, t, fun oa ρ1 v1 H1 t1 m1 R1 i1 => ⟨B, ρ1, _, R1, t1, fun ob ρ2 v2 H2 t2 m2 R2' i2 => ?_⟩⟩
  obtain ⟨d, t3, r3⟩ := (i1.adv m2).rd R2' t2
  obtain ⟨e, t4, r4⟩ := i2.rd R2' t3
  exact f _ H2 v1 v2 d e _ _ R2'.owt r3 r4 t4 fun z dz H' hq hs hz => k _ _ _ _ hq ((m1.trans m2).trans (.same hs)) (R2'.same hs) hz
theorem do_op {op : Operator} {r : R2} {g : D2} (ho : OpR X (binaryOp op) r) (f : Fit2 r g) (ha : DO X a ta) (hb : DO X b tb) : DO X (.BinOp a op b pos) (d2 g ta tb) := PE.imp (pe_op ho ha hb) fun _ _ _ h => up2 f h
theorem do_cmp {op : CmpOp} {r : R2} {g : D2} (ho : OpR X (compareOp op) r) (f : Fit2 r g) (ha : DO X a ta) (hb : DO X b tb) (hm : behindInMarks op b = false) : DO X (.Compare a [op] [b] pos) (d2 g ta tb) := PE.imp (pe_cmpR ho ha hb hm) fun _ _ _ h => up2 f h
/-- one operand -/
abbrev D1 := PyData → (PyData → Prop) → Prop
def Fit1 (r : V → Hp → VK → Prop) (g : D1) : Prop := ∀ (O : Addr → Prop) (H : Hp) (x : V) (d : PyData) (q : PyData → Prop) (Q : VK), (∀ a, O a → ∃ o, H a = some o) → RdB O H x d → g d q →
  (∀ z dz H', q dz → Same H H' → Is O H' z dz → Q z H') → r x H Q
def d1 (g : D1) (ta : DT) : DT := fun ρ q => ta ρ fun oa ρ1 => oa.rd ρ1 fun d => g d fun r => q (.vl r) ρ1
theorem do_un {op : UnaryOp} {r : V → Hp → VK → Prop} {g : D1} (ho : UnR X (unaryOp op) r) (f : Fit1 r g) (ha : DO X a ta) : DO X (.UnaryOp op a pos) (d1 g ta) := PE.imp (pe_un ho ha) fun σ H Q ⟨B, ρ, q, R, t, k⟩ => by
  refine ⟨B, ρ, _, R, t, fun oa ρ1 v1 H1 t1 m1 R1 i1 => ?_⟩
  obtain ⟨d, t3, r3⟩ := i1.rd R1 t1
  exact f _ H1 v1 d _ _ R1.owt r3 t3 fun z dz H' hq hs hz => k _ _ _ _ hq (m1.trans (.same hs)) (R1.same hs) hz

/-- two ints -/
def gII (C : Int → Int → Prop) (g : Int → Int → PyData) : D2 := fun d e q => match d, e with
  | .int i, .int j => C i j ∧ q (g i j)
  | _, _ => False
theorem fit_rI {C : Int → Int → Prop} {g : Int → Int → Int} : Fit2 (rI C fun i j => .int (g i j)) (gII C fun i j => .int (g i j)) := fun O H x y d e q Q _ hx hy h k => by
  unfold gII at h
  split at h
  · rename_i i j
    exact ⟨i, j, hx.int, hy.int, h.1, k _ _ _ h.2 (Same.refl _) (.int _)⟩
  · exact h.elim
theorem fit_rI0 {g : Int → Int → Int} : Fit2 (rI0 fun i j => .int (g i j)) (gII (fun _ _ => True) fun i j => .int (g i j)) := fun O H x y d e q Q _ hx hy h k => by
  unfold gII at h
  split at h
  · rename_i i j
    exact ⟨i, j, hx.int, hy.int, k _ _ _ h.2 (Same.refl _) (.int _)⟩
  · exact h.elim
theorem fit_rB0 {g : Int → Int → Bool} : Fit2 (rI0 fun i j => .bl (g i j)) (gII (fun _ _ => True) fun i j => .bool (g i j)) := fun O H x y d e q Q _ hx hy h k => by
  unfold gII at h
  split at h
  · rename_i i j
    exact ⟨i, j, hx.int, hy.int, k _ _ _ h.2 (Same.refl _) (.bl _)⟩
  · exact h.elim
abbrev gSub : D2 := gII (fun _ _ => True) fun i j => .int (i - j)
/-- a factor below 2 ^ 63, or both together less than a million bits -/
def CMulA (i j : Int) : Prop := i.natAbs < 9223372036854775808 ∨ j.natAbs < 9223372036854775808 ∨ CMulW i j
theorem CMulA.ok {i j : Int} (h : CMulA i j) : IntMulOk i j := by
  rcases h with h | h | h
  · exact .of_left (intBits_le_64 (by omega) (by omega))
  · exact .of_right (intBits_le_64 (by omega) (by omega))
  · exact h.ok
abbrev gMul : D2 := gII CMulA fun i j => .int (i * j)
abbrev gDiv : D2 := gII CDivW fun i j => .int (i / j)
abbrev gMod : D2 := gII (fun _ j => 0 < j) fun i j => .int (i % j)
abbrev gLt : D2 := gII (fun _ _ => True) fun i j => .bool (decide (i < j))
abbrev gLe : D2 := gII (fun _ _ => True) fun i j => .bool (decide (i ≤ j))
abbrev gGt : D2 := gII (fun _ _ => True) fun i j => .bool (decide (j < i))
abbrev gGe : D2 := gII (fun _ _ => True) fun i j => .bool (decide (j ≤ i))
/-- + of ints or of texts -/
def gAdd : D2 := fun d e q => match d, e with
  | .int i, .int j => q (.int (i + j))
  | .str x, .str y => (L x).length + (L y).length ≤ 16777216 ∧ q (S (L x ++ L y))
  | _, _ => False
theorem op_addIS : OpR X (binaryOp .Add) (fun x y H Q => (rI0 (fun i j => .int (i + j)) x y H Q) ∨ (∃ i j, x = .str i ∧ y = .str j ∧ i.length + j.length ≤ sizeLine ∧ Q (.str (i ++ j)) H)) := OpR.or op_add op_add_str
theorem fit_add : Fit2 (fun x y H Q => (rI0 (fun i j => V.int (i + j)) x y H Q) ∨ (∃ i j, x = .str i ∧ y = .str j ∧ i.length + j.length ≤ sizeLine ∧ Q (.str (i ++ j)) H)) gAdd := fun O H x y d e q Q _ hx hy h k => by
  unfold gAdd at h
  split at h
  · rename_i i j
    exact .inl ⟨i, j, hx.int, hy.int, k _ _ _ h (Same.refl _) (.int _)⟩
  · rename_i i j
    refine .inr ⟨i, j, hx.str, hy.str, ?_, k _ _ _ h.2 (Same.refl _) ?_⟩
    · rw [sizeLine_eq, ← L_len, ← L_len]
      exact h.1
    · rw [← L_app]
      exact .str _
  · exact h.elim
theorem do_add (ha : DO X a ta) (hb : DO X b tb) : DO X (.BinOp a .Add b pos) (d2 gAdd ta tb) := do_op op_addIS fit_add ha hb
theorem do_sub (ha : DO X a ta) (hb : DO X b tb) : DO X (.BinOp a .Sub b pos) (d2 (gII (fun _ _ => True) fun i j => .int (i - j)) ta tb) := do_op op_sub fit_rI0 ha hb
theorem op_mulA {X : Cx} : OpR X (binaryOp .Mult) (rI CMulA fun i j => .int (i * j)) := opI fun _ _ _ _ _ _ _ hc q => mul_int q hc.ok
theorem do_mul (ha : DO X a ta) (hb : DO X b tb) : DO X (.BinOp a .Mult b pos) (d2 (gII CMulA fun i j => .int (i * j)) ta tb) := do_op op_mulA fit_rI ha hb
theorem do_fdiv (ha : DO X a ta) (hb : DO X b tb) : DO X (.BinOp a .FloorDiv b pos) (d2 (gII CDivW fun i j => .int (i / j)) ta tb) := do_op op_fdivW fit_rI ha hb
theorem do_mod (ha : DO X a ta) (hb : DO X b tb) : DO X (.BinOp a .Mod b pos) (d2 (gII (fun _ j => 0 < j) fun i j => .int (i % j)) ta tb) := do_op op_mod fit_rI ha hb
theorem do_lt (ha : DO X a ta) (hb : DO X b tb) : DO X (.Compare a [.Lt] [b] pos) (d2 (gII (fun _ _ => True) fun i j => .bool (decide (i < j))) ta tb) := do_cmp op_lt fit_rB0 ha hb (nomark _)
theorem do_le (ha : DO X a ta) (hb : DO X b tb) : DO X (.Compare a [.LtE] [b] pos) (d2 (gII (fun _ _ => True) fun i j => .bool (decide (i ≤ j))) ta tb) := do_cmp op_le fit_rB0 ha hb (nomark _)
theorem do_gt (ha : DO X a ta) (hb : DO X b tb) : DO X (.Compare a [.Gt] [b] pos) (d2 (gII (fun _ _ => True) fun i j => .bool (decide (j < i))) ta tb) := do_cmp op_gt fit_rB0 ha hb (nomark _)
theorem do_ge (ha : DO X a ta) (hb : DO X b tb) : DO X (.Compare a [.GtE] [b] pos) (d2 (gII (fun _ _ => True) fun i j => .bool (decide (j ≤ i))) ta tb) := do_cmp op_ge fit_rB0 ha hb (nomark _)
def gNeg : D1 := fun d q => match d with
  | .int i => q (.int (-i))
  | _ => False
theorem do_neg (ha : DO X a ta) : DO X (.UnaryOp .USub a pos) (d1 gNeg ta) := do_un un_neg (fun O H x d q Q _ hx h k => by
  unfold gNeg at h
  split at h
  · rename_i i
    exact ⟨i, hx.int, k _ _ _ h (Same.refl _) (.int _)⟩
  · exact h.elim) ha
/-- == and != of data at any depth, is None -/
def Fit2X (r : R2) (g : D2) : Prop := ∀ (H : Hp) (x y : V) (d e : PyData) (q : PyData → Prop) (Q : VK), RdX H x d → RdX H y e → g d e q → (∀ z dz, q dz → Sc z dz → Q z H) → r x y H Q
def d2x (g : D2) (ta tb : DT) : DT := fun ρ q => ta ρ fun oa ρ1 => tb ρ1 fun ob ρ2 => oa.rdx ρ2 fun d => ob.rdx ρ2 fun e => g d e fun r => q (.vl r) ρ2
theorem up2x {r : R2} {g : D2} (f : Fit2X r g) {σ : L2.St} {H : Hp} {Q : VK} (h : upO (d2x g ta tb) σ H Q) : tOp r (upO ta) (upO tb) σ H Q := by
  obtain ⟨B, ρ, q, R, t, k⟩ := h
  refine ⟨B, ρ, _, R, t, fun oa ρ1 v1 H1 t1 m1 R1 i1 => ⟨B, ρ1, _, R1, t1, fun ob ρ2 v2 H2 t2 m2 R2' i2 => ?_⟩⟩
  obtain ⟨d, t3, r3⟩ := (i1.adv m2).rdx R2' t2
  obtain ⟨e, t4, r4⟩ := i2.rdx R2' t3
  exact f H2 v1 v2 d e _ _ r3 r4 t4 fun z dz hq hz => k _ _ _ _ hq (m1.trans m2) R2' (hz _ _)
theorem do_cmpx {op : CmpOp} {r : R2} {g : D2} (ho : OpR X (compareOp op) r) (f : Fit2X r g) (ha : DO X a ta) (hb : DO X b tb) (hm : behindInMarks op b = false) : DO X (.Compare a [op] [b] pos) (d2x g ta tb) := PE.imp (pe_cmpR ho ha hb hm) fun _ _ _ h => up2x f h
theorem RdX.dp {K : PySem.W.Frag} {H : Hp} : ∀ {v : V} {d : PyData}, d.canLay0 = true → RdX H v d → Dp K H v d := by
  intro v d c ⟨O, h⟩
  revert c
  induction h using Is.rec (motive_2 := fun xs ds _ => PyData.canLayAll0 ds = true → DpAll K H xs ds) (motive_3 := fun xs ds _ => True) (motive_4 := fun xs ds _ => True) with
  | non => exact fun _ => .non
  | bl b => exact fun _ => .bl b
  | int i => exact fun _ => .int i
  | str x => exact fun _ => .str x
  | lst n r _ ih => exact fun c => .lst (.inl (.inl r)) (ih c)
  | tup r _ ih => exact fun c => .tup (.inl (.inl r)) (ih c)
  | dK n r _ ih => exact fun c => nomatch c
  | dT n r _ ih => exact fun c => nomatch c
  | nil => first | exact DpAll.nil | exact fun _ => DpAll.nil
  | cons _ _ h1 h2 =>
    rename_i f
    simp only [PyData.canLayAll0, Bool.and_eq_true] at f
    exact .cons (h1 f.1) (h2 f.2)
  | nilK => trivial
  | consK _ _ _ _ => trivial
  | nilT => trivial
  | consT _ _ _ _ => trivial
def gEq (f : Bool → Bool) : D2 := fun d e q => SeqAt.shaped d = true ∧ SeqAt.shaped e = true ∧ q (.bool (f (PyData.eqv d e)))
theorem fit_eq {K : PySem.W.Frag} : Fit2X (rEqD K) (gEq id) := fun H x y d e q Q hx hy ⟨h1, h2, h3⟩ k => ⟨d, e, hx.dp (SeqAt.canLay_of_shaped h1), hy.dp (SeqAt.canLay_of_shaped h2), h1, h2, k _ _ h3 (Sc.bl _)⟩
theorem fit_ne {K : PySem.W.Frag} : Fit2X (rNeD K) (gEq (!·)) := fun H x y d e q Q hx hy ⟨h1, h2, h3⟩ k => ⟨d, e, hx.dp (SeqAt.canLay_of_shaped h1), hy.dp (SeqAt.canLay_of_shaped h2), h1, h2, k _ _ h3 (Sc.bl _)⟩
theorem do_eq (hu : X.A.units + 64 < cLine) (ha : DO X a ta) (hb : DO X b tb) : DO X (.Compare a [.Eq] [b] pos) (d2x (gEq id) ta tb) := do_cmpx (op_eqD hu) fit_eq ha hb (nomark _)
theorem do_ne (hu : X.A.units + 64 < cLine) (ha : DO X a ta) (hb : DO X b tb) : DO X (.Compare a [.NotEq] [b] pos) (d2x (gEq (!·)) ta tb) := do_cmpx (op_neD hu) fit_ne ha hb (nomark _)
/-- == and != of two texts -/
def gEqS (f : Bool → Bool) : D2 := fun d e q => match d, e with
  | .str x, .str y => q (.bool (f (decide (x = y))))
  | _, _ => False
theorem decV {x y : Str} : decide (V.str x = V.str y) = decide (x = y) := decide_eq_decide.mpr ⟨fun h => by injection h, fun h => by rw [h]⟩
theorem fit_eqS : Fit2 rEq (gEqS id) := fun O H x y d e q Q _ hx hy h k => by
  unfold gEqS at h
  split at h
  · refine ⟨by rw [hx.str, hy.str]; rfl, ?_⟩
    rw [hx.str, hy.str, decV]
    exact k _ _ _ h (Same.refl _) (.bl _)
  · exact h.elim
theorem fit_neS : Fit2 rNe (gEqS (!·)) := fun O H x y d e q Q _ hx hy h k => by
  unfold gEqS at h
  split at h
  · refine ⟨by rw [hx.str, hy.str]; rfl, ?_⟩
    rw [hx.str, hy.str, decV]
    exact k _ _ _ h (Same.refl _) (.bl _)
  · exact h.elim
theorem do_eqS (ha : DO X a ta) (hb : DO X b tb) : DO X (.Compare a [.Eq] [b] pos) (d2 (gEqS id) ta tb) := do_cmp op_eq fit_eqS ha hb (nomark _)
theorem do_neS (ha : DO X a ta) (hb : DO X b tb) : DO X (.Compare a [.NotEq] [b] pos) (d2 (gEqS (!·)) ta tb) := do_cmp op_ne fit_neS ha hb (nomark _)
/-- is None -/
def isNone : PyData → Bool
  | .none => true
  | _ => false
theorem RdX.isNone {H : Hp} {v : V} {d : PyData} (h : RdX H v d) : decide (v = .non) = isNone d := by
  obtain ⟨O, h⟩ := h
  cases h <;> rfl
def gIs (f : Bool → Bool) : D2 := fun d e q => isNone e = true ∧ q (.bool (f (isNone d)))
theorem fit_is : Fit2X (fun x y H Q => y = .non ∧ Q (.bl (decide (x = .non))) H) (gIs id) := fun H x y d e q Q hx hy h k => by
  refine ⟨of_decide_eq_true (hy.isNone.trans h.1), ?_⟩
  rw [hx.isNone]
  exact k _ _ h.2 (Sc.bl _)
theorem fit_isnot : Fit2X (fun x y H Q => y = .non ∧ Q (.bl (!decide (x = .non))) H) (gIs (!·)) := fun H x y d e q Q hx hy h k => by
  refine ⟨of_decide_eq_true (hy.isNone.trans h.1), ?_⟩
  rw [hx.isNone]
  exact k _ _ h.2 (Sc.bl _)
theorem do_is (ha : DO X a ta) (hb : DO X b tb) : DO X (.Compare a [.Is] [b] pos) (d2x (gIs id) ta tb) := do_cmpx op_isN fit_is ha hb (nomark _)
theorem do_isnot (ha : DO X a ta) (hb : DO X b tb) : DO X (.Compare a [.IsNot] [b] pos) (d2x (gIs (!·)) ta tb) := do_cmpx op_notN fit_isnot ha hb (nomark _)

/-! ### tests -/
abbrev DTT := DEnv → (Bool → DEnv → Prop) → Prop
def upT (t : DTT) : TT := fun σ H Q => ∃ B ρ q, Rep B ρ σ H ∧ t ρ q ∧ ∀ b ρ' H', q b ρ' → Adv (OW B ρ) (OW B ρ') H H' → Rep B ρ' σ H' → Q b H'
abbrev DP (X : Cx) (e : Expr) (t : DTT) : Prop := PT X e (upT t)
/-- a value that is True or False, as a test -/
def dB (t : DT) : DTT := fun ρ q => t ρ fun o ρ' => o.rd ρ' fun d => match d with
  | .bool b => q b ρ'
  | _ => False
theorem upB {t : DT} {σ : L2.St} {H : Hp} {Q : Bool → Hp → Prop} (h : upT (dB t) σ H Q) : upO t σ H fun x H1 => ∃ c, x = .bl c ∧ Q c H1 := by
  obtain ⟨B, ρ, q, R, t, k⟩ := h
  refine ⟨B, ρ, _, R, t, fun oa ρ1 v1 H1 t1 m1 R1 i1 => ?_⟩
  obtain ⟨d, t3, r3⟩ := i1.rd R1 t1
  split at t3
  · rename_i b
    exact ⟨b, r3.bl, k _ _ _ t3 m1 R1⟩
  · exact t3.elim
theorem dp_val (h : DO X e ta) (he : ∀ whole, isTrue e X.env whole = (do let v ← whole; standAt e.pos; holding [v] (truthy v)) := by intro _; rfl) : DP X e (dB ta) := PT.imp (pt_val h he) fun _ _ _ h => upB h
theorem dp_cmp {op : CmpOp} {r : R2} {g : D2} (ho : OpR X (compareOp op) r) (f : Fit2 r g) (ha : DO X a ta) (hb : DO X b tb) (hm : behindInMarks op b = false) : DP X (.Compare a [op] [b] pos) (dB (d2 g ta tb)) := PT.imp (pt_cmpR ho ha hb hm) fun _ _ _ h => by
  have h' := upB h
  exact up2 f h'
theorem dp_lt (ha : DO X a ta) (hb : DO X b tb) : DP X (.Compare a [.Lt] [b] pos) (dB (d2 (gII (fun _ _ => True) fun i j => .bool (decide (i < j))) ta tb)) := dp_cmp op_lt fit_rB0 ha hb (nomark _)
theorem dp_le (ha : DO X a ta) (hb : DO X b tb) : DP X (.Compare a [.LtE] [b] pos) (dB (d2 (gII (fun _ _ => True) fun i j => .bool (decide (i ≤ j))) ta tb)) := dp_cmp op_le fit_rB0 ha hb (nomark _)
theorem dp_gt (ha : DO X a ta) (hb : DO X b tb) : DP X (.Compare a [.Gt] [b] pos) (dB (d2 (gII (fun _ _ => True) fun i j => .bool (decide (j < i))) ta tb)) := dp_cmp op_gt fit_rB0 ha hb (nomark _)
theorem dp_ge (ha : DO X a ta) (hb : DO X b tb) : DP X (.Compare a [.GtE] [b] pos) (dB (d2 (gII (fun _ _ => True) fun i j => .bool (decide (j ≤ i))) ta tb)) := dp_cmp op_ge fit_rB0 ha hb (nomark _)
theorem dp_cmpx {op : CmpOp} {r : R2} {g : D2} (ho : OpR X (compareOp op) r) (f : Fit2X r g) (ha : DO X a ta) (hb : DO X b tb) (hm : behindInMarks op b = false) : DP X (.Compare a [op] [b] pos) (dB (d2x g ta tb)) := PT.imp (pt_cmpR ho ha hb hm) fun _ _ _ h => by
  have h' := upB h
  exact up2x f h'
theorem dp_eq (hu : X.A.units + 64 < cLine) (ha : DO X a ta) (hb : DO X b tb) : DP X (.Compare a [.Eq] [b] pos) (dB (d2x (gEq id) ta tb)) := dp_cmpx (op_eqD hu) fit_eq ha hb (nomark _)
theorem dp_ne (hu : X.A.units + 64 < cLine) (ha : DO X a ta) (hb : DO X b tb) : DP X (.Compare a [.NotEq] [b] pos) (dB (d2x (gEq (!·)) ta tb)) := dp_cmpx (op_neD hu) fit_ne ha hb (nomark _)
theorem dp_eqS (ha : DO X a ta) (hb : DO X b tb) : DP X (.Compare a [.Eq] [b] pos) (dB (d2 (gEqS id) ta tb)) := dp_cmp op_eq fit_eqS ha hb (nomark _)
theorem dp_neS (ha : DO X a ta) (hb : DO X b tb) : DP X (.Compare a [.NotEq] [b] pos) (dB (d2 (gEqS (!·)) ta tb)) := dp_cmp op_ne fit_neS ha hb (nomark _)
theorem dp_is (ha : DO X a ta) (hb : DO X b tb) : DP X (.Compare a [.Is] [b] pos) (dB (d2x (gIs id) ta tb)) := dp_cmpx op_isN fit_is ha hb (nomark _)
theorem dp_isnot (ha : DO X a ta) (hb : DO X b tb) : DP X (.Compare a [.IsNot] [b] pos) (dB (d2x (gIs (!·)) ta tb)) := dp_cmpx op_notN fit_isnot ha hb (nomark _)
/-! and, or, not as tests -/
variable {sa sb : DTT} {rest : List Expr}
def dNot (t : DTT) : DTT := fun ρ q => t ρ fun b ρ' => q (!b) ρ'
def dAnd (t u : DTT) : DTT := fun ρ q => t ρ fun b ρ' => if b = true then u ρ' q else q false ρ'
def dOr (t u : DTT) : DTT := fun ρ q => t ρ fun b ρ' => if b = true then q true ρ' else u ρ' q
theorem dp_not (ha : DP X a sa) : DP X (.UnaryOp .Not a pos) (dNot sa) := PT.imp (pt_not ha) fun σ H Q ⟨B, ρ, q, R, t, k⟩ => ⟨B, ρ, _, R, t, fun b ρ1 H1 t1 m1 R1 => k _ _ _ t1 m1 R1⟩
theorem upAnd {t u : DTT} {σ : L2.St} {H : Hp} {Q : Bool → Hp → Prop} (h : upT (dAnd t u) σ H Q) : tAnd (upT t) (upT u) σ H Q := by
  obtain ⟨B, ρ, q, R, t, k⟩ := h
  refine ⟨B, ρ, _, R, t, fun b ρ1 H1 t1 m1 R1 => ?_⟩
  cases b with
  | true =>
    rw [if_pos rfl] at t1 ⊢
    exact ⟨B, ρ1, q, R1, t1, fun b ρ2 H2 t2 m2 R2 => k _ _ _ t2 (m1.trans m2) R2⟩
  | false =>
    rw [if_neg Bool.false_ne_true] at t1 ⊢
    exact k _ _ _ t1 m1 R1
theorem upOr {t u : DTT} {σ : L2.St} {H : Hp} {Q : Bool → Hp → Prop} (h : upT (dOr t u) σ H Q) : tOr (upT t) (upT u) σ H Q := by
  obtain ⟨B, ρ, q, R, t, k⟩ := h
  refine ⟨B, ρ, _, R, t, fun b ρ1 H1 t1 m1 R1 => ?_⟩
  cases b with
  | false =>
    rw [if_neg Bool.false_ne_true] at t1 ⊢
    exact ⟨B, ρ1, q, R1, t1, fun b ρ2 H2 t2 m2 R2 => k _ _ _ t2 (m1.trans m2) R2⟩
  | true =>
    rw [if_pos rfl] at t1 ⊢
    exact k _ _ _ t1 m1 R1
abbrev DW (X : Cx) (e : Expr) (t : DTT) : Prop := PW X e (upT t)
theorem PW.imp {X : Cx} {e : Expr} {t t' : TT} (h : PW X e t) (i : ∀ σ H Q, t' σ H Q → t σ H Q) : PW X e t' := ⟨fun wh pins s σ H Q I hq => h.run wh pins s σ H Q I (i σ H Q hq)⟩
theorem dw_and1 (ha : DP X a sa) : DW X (.BoolOp .And [a] pos) sa := pw_and1 ha
theorem dw_or1 (ha : DP X a sa) : DW X (.BoolOp .Or [a] pos) sa := pw_or1 ha
theorem dw_and (ha : DP X a sa) (hb : DW X (.BoolOp .And (b :: rest) pos) sb) : DW X (.BoolOp .And (a :: b :: rest) pos) (dAnd sa sb) := PW.imp (pw_and ha hb) fun _ _ _ h => upAnd h
theorem dw_or (ha : DP X a sa) (hb : DW X (.BoolOp .Or (b :: rest) pos) sb) : DW X (.BoolOp .Or (a :: b :: rest) pos) (dOr sa sb) := PW.imp (pw_or ha hb) fun _ _ _ h => upOr h
theorem dp_w (h : DW X e sa) : DP X e sa := h.pt
/-- a if t else b -/
def dIf (t : DTT) (ta tb : DT) : DT := fun ρ q => t ρ fun b ρ' => if b = true then ta ρ' q else tb ρ' q
theorem do_if (hc : DP X c sa) (ha : DO X a ta) (hb : DO X b tb) : DO X (.IfExp c a b pos) (dIf sa ta tb) := PE.imp (pe_ifExp hc ha hb) fun σ H Q ⟨B, ρ, q, R, t, k⟩ => by
  refine ⟨B, ρ, _, R, t, fun b ρ1 H1 t1 m1 R1 => ?_⟩
  cases b with
  | true =>
    rw [if_pos rfl] at t1 ⊢
    exact ⟨B, ρ1, q, R1, t1, fun o ρ2 v H2 t2 m2 R2 i2 => k _ _ _ _ t2 (m1.trans m2) R2 i2⟩
  | false =>
    rw [if_neg Bool.false_ne_true] at t1 ⊢
    exact ⟨B, ρ1, q, R1, t1, fun o ρ2 v H2 t2 m2 R2 i2 => k _ _ _ _ t2 (m1.trans m2) R2 i2⟩
/-- and, or as values: all but the last True or False -/
def dAndV (ta tb : DT) : DT := fun ρ q => ta ρ fun o ρ' => o.rd ρ' fun d => match d with
  | .bool b => if b = true then tb ρ' q else q (.vl (.bool false)) ρ'
  | _ => False
def dOrV (ta tb : DT) : DT := fun ρ q => ta ρ fun o ρ' => o.rd ρ' fun d => match d with
  | .bool b => if b = true then q (.vl (.bool true)) ρ' else tb ρ' q
  | _ => False
theorem do_one {op} (ha : DO X a ta) : DO X (.BoolOp op [a] pos) ta := pe_one ha
theorem do_and (ha : DO X a ta) (hb : DO X (.BoolOp .And (b :: rest) pos) tb) : DO X (.BoolOp .And (a :: b :: rest) pos) (dAndV ta tb) := PE.imp (pe_and ha hb) fun σ H Q ⟨B, ρ, q, R, t, k⟩ => by
  refine ⟨B, ρ, _, R, t, fun o ρ1 v H1 t1 m1 R1 i1 => ?_⟩
  obtain ⟨d, t3, r3⟩ := i1.rd R1 t1
  split at t3
  · rename_i b
    refine ⟨b, r3.bl, ?_⟩
    cases b with
    | true =>
      rw [if_pos rfl] at t3 ⊢
      exact ⟨B, ρ1, q, R1, t3, fun o ρ2 v H2 t2 m2 R2 i2 => k _ _ _ _ t2 (m1.trans m2) R2 i2⟩
    | false =>
      rw [if_neg Bool.false_ne_true] at t3 ⊢
      exact k _ _ _ _ t3 m1 R1 (.bl false)
  · exact t3.elim
theorem do_or (ha : DO X a ta) (hb : DO X (.BoolOp .Or (b :: rest) pos) tb) : DO X (.BoolOp .Or (a :: b :: rest) pos) (dOrV ta tb) := PE.imp (pe_or ha hb) fun σ H Q ⟨B, ρ, q, R, t, k⟩ => by
  refine ⟨B, ρ, _, R, t, fun o ρ1 v H1 t1 m1 R1 i1 => ?_⟩
  obtain ⟨d, t3, r3⟩ := i1.rd R1 t1
  split at t3
  · rename_i b
    refine ⟨b, r3.bl, ?_⟩
    cases b with
    | false =>
      rw [if_neg Bool.false_ne_true] at t3 ⊢
      exact ⟨B, ρ1, q, R1, t3, fun o ρ2 v H2 t2 m2 R2 i2 => k _ _ _ _ t2 (m1.trans m2) R2 i2⟩
    | true =>
      rw [if_pos rfl] at t3 ⊢
      exact k _ _ _ _ t3 m1 R1 (.bl true)
  · exact t3.elim
/-- not, as a value -/
def gNot : D1 := fun d q => match d with
  | .bool b => q (.bool (!b))
  | _ => False
theorem do_not (ha : DO X a ta) : DO X (.UnaryOp .Not a pos) (d1 gNot ta) := PE.imp (pe_not ha) fun σ H Q ⟨B, ρ, q, R, t, k⟩ => by
  refine ⟨B, ρ, _, R, t, fun o ρ1 v H1 t1 m1 R1 i1 => ?_⟩
  obtain ⟨d, t3, r3⟩ := i1.rd R1 t1
  unfold gNot at t3
  split at t3
  · rename_i b
    exact ⟨b, r3.bl, k _ _ _ _ t3 m1 R1 (.bl _)⟩
  · exact t3.elim
/-- a < b < c -/
def dCh (g h : D2) (ta tb tc : DT) : DT := fun ρ q => ta ρ fun oa ρ1 => tb ρ1 fun ob ρ2 => oa.rd ρ2 fun d => ob.rd ρ2 fun e => g d e fun r => match r with
  | .bool b => if b = true then tc ρ2 (fun oc ρ3 => ob.rd ρ3 fun e' => oc.rd ρ3 fun f => h e' f fun r' => q (.vl r') ρ3) else q (.vl (.bool false)) ρ2
  | _ => False
theorem upCh {r r' : R2} {g g' : D2} (f : Fit2 r g) (f' : Fit2 r' g') {σ : L2.St} {H : Hp} {Q : VK} (h : upO (dCh g g' ta tb tc) σ H Q) : tChain r r' (upO ta) (upO tb) (upO tc) σ H Q := by
  obtain ⟨B, ρ, q, R, t, k⟩ := h
  refine ⟨B, ρ, _, R, t, fun oa ρ1 v1 H1 t1 m1 R1 i1 => ⟨B, ρ1, _, R1, t1, fun ob ρ2 v2 H2 t2 m2 R2' i2 => ?_⟩⟩
  obtain ⟨d, t3, r3⟩ := (i1.adv m2).rd R2' t2
  obtain ⟨e, t4, r4⟩ := i2.rd R2' t3
  refine f _ H2 v1 v2 d e _ _ R2'.owt r3 r4 t4 fun z dz H2' hq hs hz => ?_
  have R2'' := R2'.same hs
  have m12 := (m1.trans m2).trans (Adv.same hs)
  split at hq
  · rename_i b
    refine ⟨b, hz.bl', ?_⟩
    cases b with
    | false =>
      rw [if_neg Bool.false_ne_true] at hq ⊢
      exact k _ _ _ _ hq m12 R2'' (.bl false)
    | true =>
      rw [if_pos rfl] at hq ⊢
      refine ⟨B, ρ2, _, R2'', hq, fun oc ρ3 v3 H3 t5 m3 R3 i3 => ?_⟩
      obtain ⟨e', t6, r6⟩ := ((i2.adv (Adv.same hs)).adv m3).rd R3 t5
      obtain ⟨ff, t7, r7⟩ := i3.rd R3 t6
      exact f' _ H3 v2 v3 e' ff _ _ R3.owt r6 r7 t7 fun z dz H' hq hs3 hz => k _ _ _ _ hq ((m12.trans m3).trans (.same hs3)) (R3.same hs3) hz
  · exact hq.elim
theorem do_chain {op op' : CmpOp} {r r' : R2} {g g' : D2} (ho : OpR X (compareOp op) r) (ho' : OpR X (compareOp op') r') (f : Fit2 r g) (f' : Fit2 r' g') (ha : DO X a ta) (hb : DO X b tb) (hc : DO X c tc)
    (hm : lastMarks [op, op'] [b, c] = false := by with_unfolding_all rfl) : DO X (.Compare a [op, op'] [b, c] pos) (dCh g g' ta tb tc) := PE.imp (pe_chain ho ho' ha hb hc hm) fun _ _ _ h => upCh f f' h
theorem dp_chain {op op' : CmpOp} {r r' : R2} {g g' : D2} (ho : OpR X (compareOp op) r) (ho' : OpR X (compareOp op') r') (f : Fit2 r g) (f' : Fit2 r' g') (ha : DO X a ta) (hb : DO X b tb) (hc : DO X c tc)
    (hm : lastMarks [op, op'] [b, c] = false := by with_unfolding_all rfl) : DP X (.Compare a [op, op'] [b, c] pos) (dB (dCh g g' ta tb tc)) := PT.imp (pt_chain ho ho' ha hb hc hm) fun _ _ _ h => upCh f f' (upB h)
end
end DL
namespace DL
open PySem PySem.Spec PyProof.Rows L2

/-! ### argument lists -/
abbrev DTA := DEnv → (List OV → DEnv → Prop) → Prop
abbrev OAll (B : Bs) (ρ : DEnv) (σ : L2.St) (H : Hp) : List V → List OV → Prop := Paired (OIs B ρ σ H)
def upA (t : DTA) : TA := fun σ H Q => ∃ B ρ q, Rep B ρ σ H ∧ t ρ q ∧ ∀ os ρ' vs H', q os ρ' → Adv (OW B ρ) (OW B ρ') H H' → Rep B ρ' σ H' → OAll B ρ' σ H' vs os → Q vs H'
abbrev DA (X : Cx) (es : List Expr) (t : DTA) : Prop := PA X es (upA t)
theorem OAll.adv {B : Bs} {ρ ρ' : DEnv} {σ : L2.St} {H H' : Hp} (m : Adv (OW B ρ) (OW B ρ') H H') : ∀ {vs : List V} {os : List OV}, OAll B ρ σ H vs os → OAll B ρ' σ H' vs os
  | _, _, .nil => .nil
  | _, _, .cons h t => .cons (h.adv m) (OAll.adv m t)
def rdAll : List OV → DEnv → (List PyData → Prop) → Prop
  | [], _, k => k []
  | o :: os, ρ, k => o.rd ρ fun d => rdAll os ρ fun ds => k (d :: ds)
def tkAll : List OV → DEnv → (List PyData → DEnv → Prop) → Prop
  | [], ρ, k => k [] ρ
  | o :: os, ρ, k => o.tk ρ fun d ρ' => tkAll os ρ' fun ds ρ'' => k (d :: ds) ρ''
abbrev RdAll (O : Addr → Prop) (H : Hp) : List V → List PyData → Prop := Paired (RdB O H)
theorem OAll.rd {B : Bs} {ρ : DEnv} {σ : L2.St} {H : Hp} (R : Rep B ρ σ H) : ∀ {vs : List V} {os : List OV} {k : List PyData → Prop}, OAll B ρ σ H vs os → rdAll os ρ k → ∃ ds, k ds ∧ RdAll (OW B ρ) H vs ds
  | _, _, _, .nil, h => ⟨[], h, .nil⟩
  | _, _, _, .cons i t, h => by
    obtain ⟨d, h1, r⟩ := i.rd R h
    obtain ⟨ds, h2, rs⟩ := OAll.rd R t h1
    exact ⟨d :: ds, h2, .cons r rs⟩
theorem OAll.tk {B : Bs} {σ : L2.St} {H : Hp} : ∀ {vs : List V} {os : List OV} {ρ : DEnv} {k : List PyData → DEnv → Prop}, Rep B ρ σ H → OAll B ρ σ H vs os → tkAll os ρ k →
    ∃ ds ρ', k ds ρ' ∧ IsAll (OW B ρ') H vs ds ∧ Rep B ρ' σ H ∧ Adv (OW B ρ) (OW B ρ') H H
  | _, _, ρ, _, R, .nil, h => ⟨[], ρ, h, .nil, R, .refl⟩
  | _, _, ρ, _, R, .cons i t, h => by
    obtain ⟨d, ρ1, h1, r, R1, m1⟩ := i.tk R h
    obtain ⟨ds, ρ2, h2, rs, R2, m2⟩ := OAll.tk R1 (OAll.adv m1 t) h1
    exact ⟨d :: ds, ρ2, h2, .cons (r.mono m2) rs, R2, m1.trans m2⟩
section
variable {X : Cx} {a b c e : Expr} {es : List Expr} {ta tb tc : DT} {t : DTA} {pos : Pos}
def dNil : DTA := fun ρ q => q [] ρ
def dCons (ta : DT) (tr : DTA) : DTA := fun ρ q => ta ρ fun o ρ1 => tr ρ1 fun os ρ2 => q (o :: os) ρ2
theorem da_nil : DA X [] dNil := PA.imp pa_nil fun σ H Q ⟨B, ρ, q, R, t, k⟩ => k _ _ _ _ t .refl R .nil
theorem da_cons (ha : DO X e ta) (hr : DA X es t) (hs : starEach (e :: es) X.env = (false, eval e X.env) :: starEach es X.env := by rfl) : DA X (e :: es) (dCons ta t) := PA.imp (pa_cons ha hr hs) fun σ H Q ⟨B, ρ, q, R, t, k⟩ => by
  refine ⟨B, ρ, _, R, t, fun o ρ1 v1 H1 t1 m1 R1 i1 => ⟨B, ρ1, _, R1, t1, fun os ρ2 vs H2 t2 m2 R2 i2 => ?_⟩⟩
  exact k _ _ _ _ t2 (m1.trans m2) R2 (.cons (i1.adv m2) i2)
/-- one expression -/
theorem upA1 {σ : L2.St} {H : Hp} {Q : V → Hp → Prop} (h : ∃ B ρ q, Rep B ρ σ H ∧ ta ρ q ∧ ∀ o ρ' v H', q o ρ' → Adv (OW B ρ) (OW B ρ') H H' → Rep B ρ' σ H' → OIs B ρ' σ H' v o → Q v H') : upO ta σ H Q := h

/-! ### displays -/
def dTup (t : DTA) : DT := fun ρ q => t ρ fun os ρ1 => tkAll os ρ1 fun ds ρ2 => ds.length ≤ 16777216 ∧ q (.vl (.tuple ds)) ρ2
theorem do_tup {x1} (h : DA X es t) : DO X (.Tuple es x1 pos) (dTup t) := PE.imp (pe_tup h) fun σ H Q ⟨B, ρ, q, R, t, k⟩ => by
  refine ⟨B, ρ, _, R, t, fun os ρ1 vs H1 t1 m1 R1 i1 => ?_⟩
  obtain ⟨ds, ρ2, ⟨hl, t2⟩, is, R2, m2⟩ := OAll.tk R1 i1 t1
  refine ⟨by rw [is.length, sizeLine_eq]; exact hl, fun p hp => ?_⟩
  have m3 : Adv (OW B ρ2) (OW B ρ2) H1 (upd H1 p (.tup vs)) := .new hp
  exact k _ _ _ _ t2 ((m1.trans m2).trans m3) (R2.same (same_new hp)) (.tup upd_same (is.mono m3))
/-- a list that is handed on at once -/
def dLst (t : DTA) : DT := fun ρ q => t ρ fun os ρ1 => tkAll os ρ1 fun ds ρ2 => ds.length ≤ 16777216 ∧ q (.vl (.list ds)) ρ2
theorem do_lst (h : DA X es t) : DO X (.List es pos) (dLst t) := PE.imp (pe_lst h) fun σ H Q ⟨B, ρ, q, R, t, k⟩ => by
  refine ⟨B, ρ, _, R, t, fun os ρ1 vs H1 t1 m1 R1 i1 => ?_⟩
  obtain ⟨ds, ρ2, ⟨hl, t2⟩, is, R2, m2⟩ := OAll.tk R1 i1 t1
  refine ⟨by rw [is.length, sizeLine_eq]; exact hl, fun p hp => ?_⟩
  have m3 : Adv (OW B ρ2) (OW B ρ2) H1 (upd H1 p (.lst vs)) := .new hp
  exact k _ _ _ _ t2 ((m1.trans m2).trans m3) (R2.same (same_new hp)) (.lst (R2.new hp) upd_same (is.mono m3))

/-! ### items -/
theorem atI_all {O : Addr → Prop} {H : Hp} {xs : List V} {ds : List PyData} (h : IsAll O H xs ds) {i : Int} {d : PyData} (e : atI ds i = some d) : ∃ v, atI xs i = some v ∧ Is O H v d := by
  unfold atI at e ⊢
  rw [h.length]
  cases q : ixN ds.length i with
  | none => rw [q] at e; cases e
  | some j =>
    rw [q] at e
    exact h.get e
def gIx : D2 := fun d e q => match e with
  | .int i => match d with
    | .list ds => ∃ r, atI ds i = some r ∧ q r
    | .tuple ds => ∃ r, atI ds i = some r ∧ q r
    | .str x => (L x).length ≤ 16777216 ∧ ∃ c, atI (L x) i = some c ∧ q (S [c])
    | _ => False
  | _ => False
theorem fit_ix {K : PySem.W.Frag} : Fit2 (rIx K) gIx := fun O H x y d e q Q _ hx hy h k => by
  unfold gIx at h
  split at h
  · rename_i i
    split at h
    · obtain ⟨r, h1, h2⟩ := h
      obtain ⟨a, xs, e1, e2, e3⟩ := hx.lst
      obtain ⟨v, f1, f2⟩ := atI_all e3 h1
      exact .inl ⟨a, xs, i, v, e1, hy.int, SqL.of e2, f1, k _ _ _ h2 (Same.refl _) f2⟩
    · obtain ⟨r, h1, h2⟩ := h
      obtain ⟨a, xs, e1, e2, e3⟩ := hx.tup
      obtain ⟨v, f1, f2⟩ := atI_all e3 h1
      exact .inr (.inl ⟨a, xs, i, v, e1, hy.int, SqT.of e2, f1, k _ _ _ h2 (Same.refl _) f2⟩)
    · obtain ⟨hl, c, h1, h2⟩ := h
      exact .inr (.inr ⟨_, i, c, hx.str, hy.int, by rw [sizeLine_eq, ← L_len]; exact hl, h1, k _ _ _ h2 (Same.refl _) (.str _)⟩)
    · exact h.elim
  · exact h.elim
theorem do_ix (ha : DO X a ta) (hb : DO X b tb) (hs : PlainIx b) : DO X (.Subscript a b pos) (d2 gIx ta tb) := PE.imp (pe_ix ix_seq ha hb hs) fun _ _ _ h => up2 fit_ix h

/-! ### slices -/
abbrev DTO := DEnv → (Option Int → DEnv → Prop) → Prop
def upP (t : DTO) : TO := fun σ H Q => ∃ B ρ q, Rep B ρ σ H ∧ t ρ q ∧ ∀ o ρ' H', q o ρ' → Adv (OW B ρ) (OW B ρ') H H' → Rep B ρ' σ H' → Q o H'
theorem PO.imp {e : Option Expr} {t t' : TO} (h : PO X e t) (i : ∀ σ H Q, t' σ H Q → t σ H Q) : PO X e t' := ⟨fun pins s σ H Q I hq => h.run pins s σ H Q I (i σ H Q hq)⟩
def dNoP : DTO := fun ρ q => q none ρ
def dPt (t : DT) : DTO := fun ρ q => t ρ fun o ρ' => o.rd ρ' fun d => match d with
  | .int i => q (some i) ρ'
  | _ => False
theorem dpo_none : PO X none (upP dNoP) := PO.imp po_none fun σ H Q ⟨B, ρ, q, R, t, k⟩ => k _ _ _ t .refl R
theorem dpo_some (h : DO X e ta) : PO X (some e) (upP (dPt ta)) := PO.imp (po_some h) fun σ H Q ⟨B, ρ, q, R, t, k⟩ => by
  refine ⟨B, ρ, _, R, t, fun oa ρ1 v1 H1 t1 m1 R1 i1 => ?_⟩
  obtain ⟨d, t3, r3⟩ := i1.rd R1 t1
  split at t3
  · rename_i i
    exact ⟨i, r3.int, k _ _ _ t3 m1 R1⟩
  · exact t3.elim
/-- l[lo:hi] -/
def cutD {α : Type} (xs : List α) (lo hi : Option Int) : List α := (xs.drop (HT.sIx xs.length 0 lo)).take (HT.sIx xs.length xs.length hi - HT.sIx xs.length 0 lo)
def gSl (lo hi : Option Int) : D1 := fun d q => match d with
  | .str x => (L x).length ≤ 16777216 ∧ q (S (cutD (L x) lo hi))
  | .list ds => q (.list (cutD ds lo hi))
  | .tuple ds => q (.tuple (cutD ds lo hi))
  | _ => False
theorem cut_all {α : Type} {xs : List α} {lo hi : Option Int} (h : HT.sIx xs.length 0 lo = 0 ∧ HT.sIx xs.length xs.length hi = xs.length) : cutD xs lo hi = xs := by
  unfold cutD
  rw [h.1, h.2]
  simp
def dSl (ta : DT) (tl th : DTO) : DT := fun ρ q => ta ρ fun oa ρ1 => tl ρ1 fun lo ρ2 => th ρ2 fun hi ρ3 => oa.rd ρ3 fun d => gSl lo hi d fun r => q (.vl r) ρ3
theorem cut_is {O : Addr → Prop} {H : Hp} {xs : List V} {ds : List PyData} (h : IsAll O H xs ds) (lo hi : Option Int) : IsAll O H (cutV xs lo hi) (cutD ds lo hi) := by
  unfold cutV cutD
  rw [h.length]
  exact (h.drop _).take _
theorem do_sl {lo hi : Option Expr} {tl th : DTO} {p2 : Pos} (ha : DO X a ta) (hl : PO X lo (upP tl)) (hh : PO X hi (upP th)) : DO X (.Subscript a (.Slice lo hi none p2) pos) (dSl ta tl th) := PE.imp (pe_slice (sl_str.or (sl_list.or sl_tupA)) ha hl hh) fun σ H Q ⟨B, ρ, q, R, t, k⟩ => by
  refine ⟨B, ρ, _, R, t, fun oa ρ1 v1 H1 t1 m1 R1 i1 => ⟨B, ρ1, _, R1, t1, fun lo ρ2 H2 t2 m2 R2 => ⟨B, ρ2, _, R2, t2, fun hi ρ3 H3 t3 m3 R3 => ?_⟩⟩⟩
  obtain ⟨d, t4, r4⟩ := ((i1.adv m2).adv m3).rd R3 t3
  have m := (m1.trans m2).trans m3
  unfold gSl at t4
  split at t4
  · rename_i x
    refine .inl ⟨_, r4.str, by rw [sizeLine_eq, ← L_len]; exact t4.1, ?_⟩
    have e : mk (cutD (L x) lo hi) = cutS x lo hi := rfl
    rw [← e]
    exact k _ _ _ _ t4.2 m R3 (Is.str _)
  · obtain ⟨a', xs, e1, e2, e3⟩ := r4.lst
    refine .inr (.inl ⟨a', xs, e1, SqL.of e2, fun p hp => ?_⟩)
    have m4 : Adv (OW B ρ3) (OW B ρ3) H3 (upd H3 p (.lst (cutV xs lo hi))) := .new hp
    exact k _ _ _ _ t4 (m.trans m4) (R3.same (same_new hp)) (.lst (R3.new hp) upd_same ((cut_is e3 lo hi).mono m4))
  · obtain ⟨a', xs, e1, e2, e3⟩ := r4.tup
    rename_i ds
    refine .inr (.inr ⟨a', xs, e1, SqT.of e2, fun hw => ?_, fun hw p hp => ?_⟩)
    · rw [cut_all (xs := ds) (by rw [← e3.length]; exact hw)] at t4
      exact k _ _ _ _ t4 m R3 (.tup e2 e3)
    · have m4 : Adv (OW B ρ3) (OW B ρ3) H3 (upd H3 p (.tup (cutV xs lo hi))) := .new hp
      exact k _ _ _ _ t4 (m.trans m4) (R3.same (same_new hp)) (.tup upd_same ((cut_is e3 lo hi).mono m4))
  · exact t4.elim

/-! ### built-ins called by name -/
abbrev DG := List PyData → (PyData → Prop) → Prop
def Fit (r : List V → Hp → VK → Prop) (g : DG) : Prop := ∀ (O : Addr → Prop) (H : Hp) (xs : List V) (ds : List PyData) (q : PyData → Prop) (Q : VK), (∀ a, O a → ∃ o, H a = some o) → RdAll O H xs ds → g ds q →
  (∀ z dz H', q dz → Same H H' → Is O H' z dz → Q z H') → r xs H Q
def dB1 (g : DG) (t : DTA) : DT := fun ρ q => t ρ fun os ρ1 => rdAll os ρ1 fun ds => g ds fun r => q (.vl r) ρ1
theorem upG {r : List V → Hp → VK → Prop} {g : DG} (f : Fit r g) {σ : L2.St} {H : Hp} {Q : VK} (h : upO (dB1 g t) σ H Q) : upA t σ H fun vs H1 => r vs H1 Q := by
  obtain ⟨B, ρ, q, R, t, k⟩ := h
  refine ⟨B, ρ, _, R, t, fun os ρ1 vs H1 t1 m1 R1 i1 => ?_⟩
  obtain ⟨ds, t2, rs⟩ := OAll.rd R1 i1 t1
  exact f _ H1 vs ds _ _ R1.owt rs t2 fun z dz H' hq hs hz => k _ _ _ _ hq (m1.trans (.same hs)) (R1.same hs) hz
theorem do_callB {id : String} {r : List V → Hp → VK → Prop} {g : DG} {x : Str} {p : Pos} (hc : CallR X (.builtin id) r) (f : Fit r g) (hg : Gl X x) (hm : X.mg x = none) (hv : bootBuiltins x = some (.builtin id)) (ha : DA X (e :: es) t) (hn : x ≠ "__name__" := by decide) (hdb : (x == ("__debug__" : Str)) = false := by decide)
    (he : starEach (e :: es) X.env = (false, eval e X.env) :: starEach es X.env := by rfl) (hpl : (backTo pos (starEach es X.env)).any (·.1) = false := by rfl) : DO X (.Call (.Name x p) (e :: es) [] pos) (dB1 g t) :=
  PE.imp (pe_callB hc hg hm hv ha hn hdb he hpl) fun _ _ _ h => upG f h
theorem do_callTy {id : String} {r : List V → Hp → VK → Prop} {g : DG} {x : Str} {p : Pos} (hc : CallR X (.type id) r) (f : Fit r g) (hg : Gl X x) (hm : X.mg x = none) (hv : bootBuiltins x = some (.type id)) (ha : DA X (e :: es) t) (hn : x ≠ "__name__" := by decide) (hdb : (x == ("__debug__" : Str)) = false := by decide)
    (he : starEach (e :: es) X.env = (false, eval e X.env) :: starEach es X.env := by rfl) (hpl : (backTo pos (starEach es X.env)).any (·.1) = false := by rfl) : DO X (.Call (.Name x p) (e :: es) [] pos) (dB1 g t) :=
  PE.imp (pe_callTy hc hg hm hv ha hn hdb he hpl) fun _ _ _ h => upG f h
/-- one argument -/
theorem rdAll1 {O : Addr → Prop} {H : Hp} {xs : List V} {d : PyData} (h : RdAll O H xs [d]) : ∃ x, xs = [x] ∧ RdB O H x d := by
  cases h with
  | cons r t => cases t; exact ⟨_, rfl, r⟩
theorem rdAll2 {O : Addr → Prop} {H : Hp} {xs : List V} {d e : PyData} (h : RdAll O H xs [d, e]) : ∃ x y, xs = [x, y] ∧ RdB O H x d ∧ RdB O H y e := by
  cases h with
  | cons r t =>
    cases t with
    | cons r' t => cases t; exact ⟨_, _, rfl, r, r'⟩
/-- a function of one argument -/
def g1 (g : D1) : DG := fun ds q => match ds with
  | [d] => g d q
  | _ => False
def g2 (g : D2) : DG := fun ds q => match ds with
  | [d, e] => g d e q
  | _ => False
/-- len -/
def gLen : D1 := fun d q => match d with
  | .str x => (L x).length ≤ 16777216 ∧ q (.int ((L x).length : Nat))
  | .list ds => q (.int (ds.length : Nat))
  | .tuple ds => q (.int (ds.length : Nat))
  | _ => False
theorem fit_len {K : PySem.W.Frag} : Fit (fun xs H Q => ∃ x n, xs = [x] ∧ LenV K x H n ∧ Q (.int (n : Nat)) H) (g1 gLen) := fun O H xs ds q Q _ rs h k => by
  unfold g1 at h
  split at h
  · rename_i d
    obtain ⟨x, rfl, r⟩ := rdAll1 rs
    unfold gLen at h
    split at h
    · obtain rfl := r.str
      exact ⟨_, _, rfl, ⟨by rw [sizeLine_eq, ← L_len]; exact h.1, (L_len _)⟩, k _ _ _ h.2 (Same.refl _) (.int _)⟩
    · obtain ⟨a, ys, rfl, e2, e3⟩ := r.lst
      exact ⟨_, _, rfl, .inl ⟨ys, SqL.of e2, e3.length.symm⟩, k _ _ _ h (Same.refl _) (.int _)⟩
    · obtain ⟨a, ys, rfl, e2, e3⟩ := r.tup
      exact ⟨_, _, rfl, .inr ⟨ys, SqT.of e2, e3.length.symm⟩, k _ _ _ h (Same.refl _) (.int _)⟩
    · exact h.elim
  · exact h.elim
theorem do_len {p : Pos} (hg : Gl X "len") (hm : X.mg "len" = none) (ha : DO X e ta) (he : starEach [e] X.env = (false, eval e X.env) :: starEach [] X.env := by rfl) : DO X (.Call (.Name "len" p) [e] [] pos) (dB1 (g1 gLen) (dCons ta dNil)) :=
  do_callB call_len fit_len hg hm boot_len (da_cons ha da_nil he) (by decide) (by decide) he
/-- a function of ints alone -/
def gAbs : D1 := fun d q => match d with
  | .int i => q (.int (if i < 0 then -i else i))
  | _ => False
abbrev gMax : DG := g2 (gII (fun _ _ => True) fun i j => .int (if j > i then j else i))
abbrev gMin : DG := g2 (gII (fun _ _ => True) fun i j => .int (if j < i then j else i))
theorem fit_abs : Fit (fun xs H Q => ∃ i, xs = [.int i] ∧ Q (.int (if i < 0 then -i else i)) H) (g1 gAbs) := fun O H xs ds q Q _ rs h k => by
  unfold g1 at h
  split at h
  · rename_i d
    obtain ⟨x, rfl, r⟩ := rdAll1 rs
    unfold gAbs at h
    split at h
    · obtain rfl := r.int
      exact ⟨_, rfl, k _ _ _ h (Same.refl _) (.int _)⟩
    · exact h.elim
  · exact h.elim
theorem fit_II {g : Int → Int → Int} : Fit (fun xs H Q => ∃ i j, xs = [.int i, .int j] ∧ Q (.int (g i j)) H) (g2 (gII (fun _ _ => True) fun i j => .int (g i j))) := fun O H xs ds q Q _ rs h k => by
  unfold g2 at h
  split at h
  · rename_i d e
    obtain ⟨x, y, rfl, r, r'⟩ := rdAll2 rs
    unfold gII at h
    split at h
    · obtain rfl := r.int
      obtain rfl := r'.int
      exact ⟨_, _, rfl, k _ _ _ h.2 (Same.refl _) (.int _)⟩
    · exact h.elim
  · exact h.elim
theorem do_abs {p : Pos} (hg : Gl X "abs") (hm : X.mg "abs" = none) (ha : DO X e ta) (he : starEach [e] X.env = (false, eval e X.env) :: starEach [] X.env := by rfl) :
    DO X (.Call (.Name "abs" p) [e] [] pos) (dB1 (g1 gAbs) (dCons ta dNil)) :=
  do_callB call_abs fit_abs hg hm (by decide +kernel) (da_cons ha da_nil he) (by decide) (by decide) he
theorem do_max2 {p : Pos} (hc : X.calm = true) (hg : Gl X "max") (hm : X.mg "max" = none) (ha : DA X (a :: es) t) (he : starEach (a :: es) X.env = (false, eval a X.env) :: starEach es X.env := by rfl) (hpl : (backTo pos (starEach es X.env)).any (·.1) = false := by rfl) :
    DO X (.Call (.Name "max" p) (a :: es) [] pos) (dB1 (g2 (gII (fun _ _ => True) fun i j => .int (if j > i then j else i))) t) := do_callB (call_max2 hc) fit_II hg hm (by decide +kernel) ha (by decide) (by decide) he hpl
theorem do_min2 {p : Pos} (hc : X.calm = true) (hg : Gl X "min") (hm : X.mg "min" = none) (ha : DA X (a :: es) t) (he : starEach (a :: es) X.env = (false, eval a X.env) :: starEach es X.env := by rfl) (hpl : (backTo pos (starEach es X.env)).any (·.1) = false := by rfl) :
    DO X (.Call (.Name "min" p) (a :: es) [] pos) (dB1 (g2 (gII (fun _ _ => True) fun i j => .int (if j < i then j else i))) t) := do_callB (call_min2 hc) fit_II hg hm (by decide +kernel) ha (by decide) (by decide) he hpl
/-- int of an int or a bool -/
def gInt : D1 := fun d q => match d with
  | .int i => q (.int i)
  | .bool b => q (.int (if b then 1 else 0))
  | _ => False
theorem fit_int : Fit (fun xs H Q => (∃ i, xs = [.int i] ∧ Q (.int i) H) ∨ ∃ k, xs = [.bl k] ∧ Q (.int (if k then 1 else 0)) H) (g1 gInt) := fun O H xs ds q Q _ rs h k => by
  unfold g1 at h
  split at h
  · rename_i d
    obtain ⟨x, rfl, r⟩ := rdAll1 rs
    unfold gInt at h
    split at h
    · obtain rfl := r.int
      exact .inl ⟨_, rfl, k _ _ _ h (Same.refl _) (.int _)⟩
    · obtain rfl := r.bl
      exact .inr ⟨_, rfl, k _ _ _ h (Same.refl _) (.int _)⟩
    · exact h.elim
  · exact h.elim
theorem do_int1 {p : Pos} (hg : Gl X "int") (hm : X.mg "int" = none) (ha : DO X e ta) (he : starEach [e] X.env = (false, eval e X.env) :: starEach [] X.env := by rfl) : DO X (.Call (.Name "int" p) [e] [] pos) (dB1 (g1 gInt) (dCons ta dNil)) :=
  do_callTy call_int1 fit_int hg hm boot_int (da_cons ha da_nil he) (by decide) (by decide) he
/-- all and any of a list of truths -/
def boolsOf : List PyData → Option (List Bool)
  | [] => some []
  | .bool b :: ds => (boolsOf ds).map (b :: ·)
  | _ :: _ => none
theorem bools_is {O : Addr → Prop} {H : Hp} : ∀ {ds : List PyData} {xs : List V} {bs : List Bool}, IsAll O H xs ds → boolsOf ds = some bs → xs = bs.map V.bl
  | [], _, bs, .nil, e => by
    cases e
    rfl
  | d :: ds, _, bs, .cons h t, e => by
    cases d with
    | bool b =>
      simp only [boolsOf] at e
      cases q : boolsOf ds with
      | none => rw [q] at e; cases e
      | some cs =>
        rw [q] at e
        cases e
        cases h
        rw [bools_is t q]
        rfl
    | _ => simp [boolsOf] at e
def gAll (f : List Bool → Bool) : D1 := fun d q => match d with
  | .list ds => ∃ bs, boolsOf ds = some bs ∧ q (.bool (f bs))
  | _ => False
theorem fit_all {K : PySem.W.Frag} {f : List Bool → Bool} : Fit (fun vs H Q => ∃ (a : Addr) (bs : List Bool), vs = [V.ref a] ∧ SqL K H a (bs.map V.bl) ∧ Q (.bl (f bs)) H) (g1 (gAll f)) := fun O H xs ds q Q _ rs h k => by
  unfold g1 at h
  split at h
  · rename_i d
    obtain ⟨x, rfl, r⟩ := rdAll1 rs
    unfold gAll at h
    split at h
    · obtain ⟨bs, h1, h2⟩ := h
      obtain ⟨a, ys, rfl, e2, e3⟩ := r.lst
      have e := bools_is e3 h1
      subst e
      exact ⟨a, bs, rfl, SqL.of e2, k _ _ _ h2 (Same.refl _) (.bl _)⟩
    · exact h.elim
  · exact h.elim
theorem do_all {p : Pos} (hc : X.calm = true) (hg : Gl X "all") (hm : X.mg "all" = none) (ha : DO X e ta) (he : starEach [e] X.env = (false, eval e X.env) :: starEach [] X.env := by rfl) : DO X (.Call (.Name "all" p) [e] [] pos) (dB1 (g1 (gAll (·.all id))) (dCons ta dNil)) :=
  do_callB (cr_all hc) fit_all hg hm (by decide +kernel) (da_cons ha da_nil he) (by decide) (by decide) he
theorem do_any {p : Pos} (hc : X.calm = true) (hg : Gl X "any") (hm : X.mg "any" = none) (ha : DO X e ta) (he : starEach [e] X.env = (false, eval e X.env) :: starEach [] X.env := by rfl) : DO X (.Call (.Name "any" p) [e] [] pos) (dB1 (g1 (gAll (·.any id))) (dCons ta dNil)) :=
  do_callB (cr_any hc) fit_all hg hm (by decide +kernel) (da_cons ha da_nil he) (by decide) (by decide) he
/-- list(x), tuple(x): new ones -/
def gListOf : D1 := fun d q => match d with
  | .list ds => q (.list ds)
  | .tuple ds => q (.list ds)
  | _ => False
theorem fit_listOf {K : PySem.W.Frag} : Fit (fun xs H Q => ∃ p ys, xs = [.ref p] ∧ (SqL K H p ys ∨ SqT K H p ys) ∧ ∀ l, H l = none → Q (.ref l) (upd H l (.lst ys))) (g1 gListOf) := fun O H xs ds q Q tr rs h k => by
  unfold g1 at h
  split at h
  · rename_i d
    obtain ⟨x, rfl, r⟩ := rdAll1 rs
    have fin : ∀ {a : Addr} {ys : List V} {ds : List PyData} (l : Addr), q (.list ds) → IsAll O H ys ds → H l = none → Q (.ref l) (upd H l (.lst ys)) := fun {a ys ds} l hq e3 hl => by
      refine k _ _ _ hq (same_new hl) (.lst (fun z => ?_) upd_same (e3.mono (.new hl)))
      obtain ⟨o, eo⟩ := tr _ z
      rw [hl] at eo; cases eo
    unfold gListOf at h
    split at h
    · obtain ⟨a, ys, rfl, e2, e3⟩ := r.lst
      exact ⟨a, ys, rfl, .inl (SqL.of e2), fun l hl => fin (a := a) l h e3 hl⟩
    · obtain ⟨a, ys, rfl, e2, e3⟩ := r.tup
      exact ⟨a, ys, rfl, .inr (SqT.of e2), fun l hl => fin (a := a) l h e3 hl⟩
    · exact h.elim
  · exact h.elim
theorem do_listOf {p : Pos} (hg : Gl X "list") (hm : X.mg "list" = none) (ha : DO X e ta) (he : starEach [e] X.env = (false, eval e X.env) :: starEach [] X.env := by rfl) : DO X (.Call (.Name "list" p) [e] [] pos) (dB1 (g1 gListOf) (dCons ta dNil)) :=
  do_callTy call_list_of fit_listOf hg hm (by decide +kernel) (da_cons ha da_nil he) (by decide) (by decide) he

/-! ### texts' methods -/
def strsOf : List PyData → Option (List Str)
  | [] => some []
  | .str x :: ds => (strsOf ds).map (x :: ·)
  | _ :: _ => none
theorem strs_is {O : Addr → Prop} {H : Hp} : ∀ {ds : List PyData} {xs : List V} {bs : List Str}, IsAll O H xs ds → strsOf ds = some bs → xs = bs.map V.str
  | [], _, bs, .nil, e => by
    cases e
    rfl
  | d :: ds, _, bs, .cons h t, e => by
    cases d with
    | str b =>
      simp only [strsOf] at e
      cases q : strsOf ds with
      | none => rw [q] at e; cases e
      | some cs =>
        rw [q] at e
        cases e
        cases h
        rw [strs_is t q]
        rfl
    | _ => simp [strsOf] at e
/-- a text's method with one argument -/
def dM1 (g : D2) (ta tb : DT) : DT := fun ρ q => ta ρ fun oa ρ1 => oa.rd ρ1 fun d => match d with
  | .str x => tb ρ1 fun ob ρ2 => ob.rd ρ2 fun e => g (.str x) e fun r => q (.vl r) ρ2
  | _ => False
theorem upM1 {r : V → List V → Hp → VK → Prop} {g : D2} (f : Fit2 (fun x y H Q => r x [y] H Q) g) {σ : L2.St} {H : Hp} {Q : VK} (h : upO (dM1 g ta tb) σ H Q) : tM1 r (upO ta) (upO tb) σ H Q := by
  obtain ⟨B, ρ, q, R, t, k⟩ := h
  refine ⟨B, ρ, _, R, t, fun oa ρ1 v1 H1 t1 m1 R1 i1 => ?_⟩
  obtain ⟨d, t2, r2⟩ := i1.rd R1 t1
  split at t2
  · rename_i x
    obtain rfl := r2.str
    refine ⟨⟨x, rfl⟩, B, ρ1, _, R1, t2, fun ob ρ2 v2 H2 t3 m2 R2 i2 => ?_⟩
    obtain ⟨e, t4, r4⟩ := i2.rd R2 t3
    exact f _ H2 _ v2 (.str x) e _ _ R2.owt (.inl (.str x)) r4 t4 fun z dz H' hq hs hz => k _ _ _ _ hq ((m1.trans m2).trans (.same hs)) (R2.same hs) hz
  · exact t2.elim
/-- a text's join of a list of texts -/
def gJoin : D2 := fun d e q => match d with
  | .str x => match e with
    | .list ds => ∃ ys, strsOf ds = some ys ∧ (ys.map (·.length)).sum + ys.length * x.length ≤ 16777216 ∧ q (.str (Txt.join x ys))
    | _ => False
  | _ => False
theorem do_join {apos : Pos} (ha : DO X a ta) (hb : DO X b tb) (hs : starEach [b] X.env = [(false, eval b X.env)] := by rfl) (hbase : attributeBase a "join" X.env (eval a X.env) = eval a X.env := by rfl) (hline : (apos.endLine == pos.line) = true := by rfl) :
    DO X (.Call (.Attribute a "join" apos) [b] [] pos) (dM1 gJoin ta tb) := PE.imp (pe_join ha hb hs hbase hline) fun _ _ _ h => upM1 (fun O H x y d e q Q _ hx hy h k => by
  unfold gJoin at h
  split at h
  · split at h
    · obtain ⟨ys, h1, h2, h3⟩ := h
      obtain ⟨p, xs, e1, e2, e3⟩ := hy.lst
      have e := strs_is e3 h1
      subst e
      exact ⟨_, p, ys, hx.str, by rw [e1], .inl (SqL.of e2), h2, k _ _ _ h3 (Same.refl _) (.str _)⟩
    · exact h.elim
  · exact h.elim) h
def gStarts : D2 := fun d e q => match d, e with
  | .str x, .str y => q (.bool (Txt.startswith x y))
  | _, _ => False
theorem do_starts {apos : Pos} (ha : DO X a ta) (hb : DO X b tb) (hs : starEach [b] X.env = [(false, eval b X.env)] := by rfl) (hbase : attributeBase a "startswith" X.env (eval a X.env) = eval a X.env := by rfl) (hline : (apos.endLine == pos.line) = true := by rfl) :
    DO X (.Call (.Attribute a "startswith" apos) [b] [] pos) (dM1 gStarts ta tb) := PE.imp (pe_m1 F.slot_str_startswith F.type_str_startswith mt_startswith ha hb hs hbase hline) fun _ _ _ h => upM1 (fun O H x y d e q Q _ hx hy h k => by
  unfold gStarts at h
  split at h
  · exact ⟨_, _, hx.str, by rw [hy.str], k _ _ _ h (Same.refl _) (.bl _)⟩
  · exact h.elim) h
/-- a sign in a text -/
def gInS (f : Bool → Bool) : D2 := fun d e q => match d, e with
  | .str x, .str y => ∃ c, L x = [c] ∧ q (.bool (f (decide (c ∈ L y))))
  | _, _ => False
theorem str_one {x : Str} {c : Nat} (h : L x = [c]) : x = ⟨#[c]⟩ := by
  rw [← mk_L x, h]
  rfl
theorem fit_inS : Fit2 (fun x y H Q => ∃ (c : Nat) (z : Str), x = .str ⟨#[c]⟩ ∧ y = .str z ∧ Q (.bl (decide (c ∈ z.cps.toList))) H) (gInS id) := fun O H x y d e q Q _ hx hy h k => by
  unfold gInS at h
  split at h
  · obtain ⟨c, h1, h2⟩ := h
    exact ⟨c, _, by rw [hx.str, str_one h1], hy.str, k _ _ _ h2 (Same.refl _) (.bl _)⟩
  · exact h.elim
theorem fit_notInS : Fit2 (fun x y H Q => ∃ (c : Nat) (z : Str), x = .str ⟨#[c]⟩ ∧ y = .str z ∧ Q (.bl (!decide (c ∈ z.cps.toList))) H) (gInS (!·)) := fun O H x y d e q Q _ hx hy h k => by
  unfold gInS at h
  split at h
  · obtain ⟨c, h1, h2⟩ := h
    exact ⟨c, _, by rw [hx.str, str_one h1], hy.str, k _ _ _ h2 (Same.refl _) (.bl _)⟩
  · exact h.elim
theorem do_inS (ha : DO X a ta) (hb : DO X b tb) (hm : behindInMarks .In b = false := by rfl) : DO X (.Compare a [.In] [b] pos) (d2 (gInS id) ta tb) := do_cmp op_in_sign fit_inS ha hb hm
theorem do_notInS (ha : DO X a ta) (hb : DO X b tb) (hm : behindInMarks .NotIn b = false := by rfl) : DO X (.Compare a [.NotIn] [b] pos) (d2 (gInS (!·)) ta tb) := do_cmp op_notIn_sign fit_notInS ha hb hm

/-! ### calls of defs -/
/-- a def's promise on data: F asks of the arguments' data and tells the value's data and what the first argument holds then (m: it may be written) -/
abbrev DF := List PyData → (PyData → PyData → Prop) → Prop
/-- the arguments behind the first one -/
def spD (m : Bool) (n : Nat) (F : DF) : Sp := fun vs H Q _ => vs.length = n ∧ ∃ (O : Addr → Prop) (ds : List PyData) (q : PyData → PyData → Prop), (∀ a, O a → ∃ o, H a = some o ∧ isTup o = false) ∧ F ds q ∧
  if m then ∃ (a : Addr) (ws : List V) (d0 : PyData) (es : List PyData), vs = .ref a :: ws ∧ ds = d0 :: es ∧ O a ∧ Top O H a d0 ∧ IsAll O H ws es ∧
      ∀ d e v H', q d e → (∀ b o, H b = some o → b ≠ a → H' b = some o) → Top O H' a e → Is O H' v d → Q v H'
  else IsAll O H vs ds ∧ ∀ d e v H', q d e → Same H H' → Is O H' v d → Q v H'
end
end DL
namespace DL
open PySem PySem.Spec PyProof.Rows L2

/-! ### calls of defs -/
/-- an argument that is an own container's name -/
def ownArg (ρ : DEnv) (o : OV) (b : Addr) : Prop := match o with
  | .vl _ => False
  | .nm i => ∃ c, ρ[i]? = some (some c) ∧ cellA c b
def ownArgs (ρ : DEnv) (os : List OV) (b : Addr) : Prop := ∃ o ∈ os, ownArg ρ o b
/-- no argument is an own container's name -/
def noOwn1 (ρ : DEnv) : OV → Bool
  | .vl _ => true
  | .nm i => match ρ[i]? with
    | some (some (.val _)) => true
    | some (some (.lck _ _)) => true
    | _ => false
def noOwn (ρ : DEnv) (os : List OV) : Bool := os.all (noOwn1 ρ)
theorem noOwn_not {ρ : DEnv} {os : List OV} (h : noOwn ρ os = true) (b : Addr) : ¬ ownArgs ρ os b := fun ⟨o, ho, z⟩ => by
  have q : noOwn1 ρ o = true := List.all_eq_true.mp h o ho
  cases o with
  | vl d => exact z
  | nm i =>
    obtain ⟨c, e, z⟩ := z
    cases c with
    | val d => exact z
    | own a d => simp [noOwn1, e] at q
    | deep P d => simp [noOwn1, e] at q
    | lck a d => exact z
    | grid a as d => simp [noOwn1, e] at q
/-- the arguments, each looked at as a whole -/
def rdAllX : List OV → DEnv → (List PyData → Prop) → Prop
  | [], _, k => k []
  | o :: os, ρ, k => o.rdx ρ fun d => rdAllX os ρ fun ds => k (d :: ds)
/-- the arguments, outside all own containers but those that are arguments -/
theorem OAll.args {B : Bs} {ρ : DEnv} {σ : L2.St} {H : Hp} (R : Rep B ρ σ H) {P : Addr → Prop} : ∀ {vs : List V} {os : List OV} {k : List PyData → Prop}, (∀ o ∈ os, ∀ b, ownArg ρ o b → P b) → OAll B ρ σ H vs os → rdAllX os ρ k →
    ∃ ds, k ds ∧ IsAll (fun b => OW B ρ b ∧ ¬ P b) H vs ds
  | _, _, _, _, .nil, h => ⟨[], h, .nil⟩
  | v :: vs, o :: os, k, hp, .cons i t, h => by
    have m : Adv (OW B ρ) (fun b => OW B ρ b ∧ ¬ P b) H H := Adv.sub fun _ z => z.1
    have one : ∀ {k : PyData → Prop}, o.rdx ρ k → ∃ d, k d ∧ Is (fun b => OW B ρ b ∧ ¬ P b) H v d := by
      intro k r
      cases o with
      | vl d => exact ⟨d, r, Is.mono m i⟩
      | nm j =>
        simp only [OV.rdx] at r
        have h' : σ[j]? = some (some v) := i
        split at r
        · rename_i d e
          obtain ⟨w, e1, e2⟩ := R.val j d e
          rw [h'] at e1; cases e1
          exact ⟨d, r, e2.mono m⟩
        · rename_i a d e
          obtain ⟨e1, e2, e3, _⟩ := R.own j a d e
          rw [h'] at e1; cases e1
          exact ⟨d, r, (e3.mono m rfl).is fun z => z.2 (hp _ (List.mem_cons_self ..) a ⟨_, e, rfl⟩)⟩
        · rename_i P' d e
          obtain ⟨w, e1, e2⟩ := R.cel j _ e
          rw [h'] at e1; cases e1
          exact ⟨d, r, Is.mono (O := fun b => ¬ P' b) ⟨fun _ _ h _ => h, fun b o _ n z => n fun p' => z.2 (hp _ (List.mem_cons_self ..) b ⟨_, e, p'⟩)⟩ e2⟩
        · rename_i a d e
          obtain ⟨w, e1, e2, e3⟩ := R.cel j _ e
          rw [h'] at e1; cases e1
          subst e2
          exact ⟨d, r, e3.is.mono m⟩
        · rename_i a as dss e
          obtain ⟨w, e1, e2, e3⟩ := R.cel j _ e
          rw [h'] at e1; cases e1
          subst e2
          exact ⟨_, r, e3.is fun b z y => y.2 (hp _ (List.mem_cons_self ..) b ⟨_, e, z⟩)⟩
        · exact r.elim
    obtain ⟨d, h1, r⟩ := one h
    obtain ⟨ds, h2, rs⟩ := OAll.args R (fun o ho => hp o (List.mem_cons_of_mem _ ho)) t h1
    exact ⟨d :: ds, h2, .cons r rs⟩
section
variable {X : Cx} {a b c e : Expr} {es : List Expr} {ta tb tc : DT} {t : DTA} {pos : Pos} {x : Str} {p : Pos} {k n : Nat} {f : Addr} {fd : FuncData} {ps : List Str} {F : DF}
def dCall (n : Nat) (F : DF) (t : DTA) : DT := fun ρ q => t ρ fun os ρ1 => os.length = n ∧ rdAllX os ρ1 fun ds => F ds fun d _ => (flat d = true ∨ noOwn ρ1 os = true) ∧ q (.vl d) ρ1
theorem upCall {E : XK} {σ : L2.St} {H : Hp} {Q : VK} (h : upO (dCall n F t) σ H Q) : tCall (spD false n F) [] E (upA t) σ H Q := by
  obtain ⟨B, ρ, q, R, t, k⟩ := h
  refine ⟨B, ρ, _, R, t, fun os ρ1 vs H1 t1 m1 R1 i1 => ?_⟩
  obtain ⟨hl, t1⟩ := t1
  rw [List.append_nil]
  obtain ⟨ds, h1, is⟩ := OAll.args (P := ownArgs ρ1 os) R1 (fun o ho b z => ⟨o, ho, z⟩) i1 t1
  refine ⟨by rw [Paired.length i1, hl], fun b => OW B ρ1 b ∧ ¬ ownArgs ρ1 os b, ds, _, fun a z => R1.ow z.1, h1, ?_⟩
  rw [if_neg Bool.false_ne_true]
  refine ⟨is, fun d e v H' hq hs hv => k _ _ _ _ hq.2 (m1.trans (.same hs)) (R1.same hs) ?_⟩
  rcases hq.1 with hf | hf
  · exact hv.flat_any hf
  · exact hv.mono (Adv.sub fun b z => ⟨z, noOwn_not hf b⟩)
theorem do_call (G : FnOk X.prog X.w X.K X.mg X.base CX0 k f fd ps (spD false n F)) (hr : Room k X.A) (hg : Gl X x) (hm : X.mg x = some (.ref f)) (hk : PySem.W.keepIn X.K (.ref f) = true) (hb : Binds X.K fd ps [])
    (ha : DA X (e :: es) t) (hdb : (x == ("__debug__" : Str)) = false := by decide) (he : starEach (e :: es) X.env = (false, eval e X.env) :: starEach es X.env := by rfl) (hpl : (backTo pos (starEach es X.env)).any (·.1) = false := by rfl) :
    DO X (.Call (.Name x p) (e :: es) [] pos) (dCall n F t) := PE.imp (pe_call G hr hg hm hk hb .nil pass0 ha hdb he hpl) fun _ _ _ h => upCall h
/-- the first argument may be written -/
def dCallM (n : Nat) (F : DF) (t : DTA) : DT := fun ρ q => t ρ fun os ρ1 => os.length = n ∧ match os with
  | .nm i :: os' => tkAll os' ρ1 fun es ρ2 => match ρ2[i]? with
    | some (some (.own a d0)) => F (d0 :: es) fun d e => q (.vl d) (ρ2.set i (some (.own a e)))
    | _ => False
  | _ => False
theorem upCallM {E : XK} {σ : L2.St} {H : Hp} {Q : VK} (h : upO (dCallM n F t) σ H Q) : tCall (spD true n F) [] E (upA t) σ H Q := by
  obtain ⟨B, ρ, q, R, t, k⟩ := h
  refine ⟨B, ρ, _, R, t, fun os ρ1 vs H1 t1 m1 R1 i1 => ?_⟩
  obtain ⟨hl, t1⟩ := t1
  rw [List.append_nil]
  refine ⟨by rw [Paired.length i1, hl], ?_⟩
  split at t1
  · rename_i i os'
    cases i1 with
    | cons i0 i1 =>
      rename_i v vs
      obtain ⟨es, ρ2, h2, is, R2, m2⟩ := OAll.tk R1 i1 t1
      split at h2
      · rename_i ad d0 hc
        obtain ⟨g1, g2, g3, g4⟩ := R2.own i ad d0 hc
        have e0 : σ[i]? = some (some v) := i0
        rw [g1] at e0
        cases e0
        refine ⟨OW B ρ2, d0 :: es, _, fun b z => R2.ow z, h2, ?_⟩
        rw [if_pos rfl]
        refine ⟨ad, vs, d0, es, rfl, rfl, .inr ⟨i, _, hc, rfl⟩, g3, is, fun d e w H' hq hk ht hw => ?_⟩
        obtain ⟨R3, m3⟩ := R2.writeBy hc hk ht
        exact k _ _ _ _ hq ((m1.trans m2).trans m3) R3 (hw.mono (Adv.sub fun b z => z.elim .inl fun z => (owns_set z).elim (fun ⟨_, z, y⟩ => by cases z; cases (show b = ad from y); exact .inr ⟨i, _, hc, rfl⟩) .inr))
      · exact h2.elim
  · exact t1.elim
theorem do_callM (G : FnOk X.prog X.w X.K X.mg X.base CX0 k f fd ps (spD true n F)) (hr : Room k X.A) (hg : Gl X x) (hm : X.mg x = some (.ref f)) (hk : PySem.W.keepIn X.K (.ref f) = true) (hb : Binds X.K fd ps [])
    (ha : DA X (e :: es) t) (hdb : (x == ("__debug__" : Str)) = false := by decide) (he : starEach (e :: es) X.env = (false, eval e X.env) :: starEach es X.env := by rfl) (hpl : (backTo pos (starEach es X.env)).any (·.1) = false := by rfl) :
    DO X (.Call (.Name x p) (e :: es) [] pos) (dCallM n F t) := PE.imp (pe_call G hr hg hm hk hb .nil pass0 ha hdb he hpl) fun _ _ _ h => upCallM h
/-- what an operand holds, handed on (an own container is frozen) -/
def dFrz (ta : DT) : DT := fun ρ q => ta ρ fun o ρ1 => o.tk ρ1 fun d ρ2 => q (.vl d) ρ2
theorem do_frz (ha : DO X a ta) : DO X a (dFrz ta) := PE.imp ha fun σ H Q ⟨B, ρ, q, R, t, k⟩ => by
  refine ⟨B, ρ, _, R, t, fun o ρ1 v H1 t1 m1 R1 i1 => ?_⟩
  obtain ⟨d, ρ2, h2, is, R2, m2⟩ := i1.tk R1 t1
  exact k _ _ _ _ h2 (m1.trans m2) R2 is
end

/-! ### statements -/
structure DEnds where
  nx : DEnv → Prop
  rt : PyData → DEnv → Prop
  bk : DEnv → Prop := fun _ => False
  ct : DEnv → Prop := fun _ => False
abbrev DTS := DEnds → DEnv → Prop
structure EndsOk (B : Bs) (O : Addr → Prop) (H : Hp) (D : Ends) (E : DEnds) : Prop where
  nx : ∀ ρ' σ' H', E.nx ρ' → Adv O (OW B ρ') H H' → Rep B ρ' σ' H' → D.nx σ' H'
  rt : ∀ d ρ' σ' v H', E.rt d ρ' → Adv O (OW B ρ') H H' → Rep B ρ' σ' H' → Is (OW B ρ') H' v d → D.rt v H'
  bk : ∀ ρ' σ' H', E.bk ρ' → Adv O (OW B ρ') H H' → Rep B ρ' σ' H' → D.bk σ' H'
  ct : ∀ ρ' σ' H', E.ct ρ' → Adv O (OW B ρ') H H' → Rep B ρ' σ' H' → D.ct σ' H'
theorem EndsOk.adv {B : Bs} {O O' : Addr → Prop} {H H' : Hp} {D : Ends} {E : DEnds} (h : EndsOk B O H D E) (m : Adv O O' H H') : EndsOk B O' H' D E :=
  ⟨fun _ _ _ a b c => h.nx _ _ _ a (m.trans b) c, fun _ _ _ _ _ a b c d => h.rt _ _ _ _ _ a (m.trans b) c d, fun _ _ _ a b c => h.bk _ _ _ a (m.trans b) c, fun _ _ _ a b c => h.ct _ _ _ a (m.trans b) c⟩
def upS (t : DTS) : TS := fun D σ H => ∃ B ρ E, Rep B ρ σ H ∧ t E ρ ∧ EndsOk B (OW B ρ) H D E
abbrev DS (X : Cx) (st : Stmt) (t : DTS) : Prop := PS X st (upS t)
abbrev DSs (X : Cx) (st : List Stmt) (t : DTS) : Prop := PSs X st (upS t)
section
variable {X : Cx} {a b c e : Expr} {es : List Expr} {ta tb tc : DT} {t : DTA} {pos : Pos} {st : Stmt} {rest : List Stmt} {u v : DTS} {s : DTT}
def sNext : DTS := fun E ρ => E.nx ρ
def sSeq (u v : DTS) : DTS := fun E ρ => u { E with nx := v E } ρ
theorem ds_nil : DSs X [] sNext := PSs.imp pss_nil fun D σ H ⟨B, ρ, E, R, t, k⟩ => k.nx _ _ _ t .refl R
theorem ds_cons (h1 : DS X st u) (h2 : DSs X rest v) : DSs X (st :: rest) (sSeq u v) := PSs.imp (pss_cons h1 h2) fun D σ H ⟨B, ρ, E, R, t, k⟩ =>
  ⟨B, ρ, _, R, t, fun ρ' σ' H' t1 m1 R1 => ⟨B, ρ', E, R1, t1, k.adv m1⟩, k.rt, k.bk, k.ct⟩
theorem ds_one (h1 : DS X st u) : DSs X [st] u := pss_one h1
theorem ds_pass : DS X (.Pass pos) sNext := PS.imp ps_pass fun D σ H ⟨B, ρ, E, R, t, k⟩ => k.nx _ _ _ t .refl R
def sBreak : DTS := fun E ρ => E.bk ρ
def sCont : DTS := fun E ρ => E.ct ρ
theorem ds_break : DS X (.Break pos) sBreak := PS.imp ps_break fun D σ H ⟨B, ρ, E, R, t, k⟩ => k.bk _ _ _ t .refl R
theorem ds_continue : DS X (.Continue pos) sCont := PS.imp ps_continue fun D σ H ⟨B, ρ, E, R, t, k⟩ => k.ct _ _ _ t .refl R
/-- a statement that is not come to -/
def sNever : DTS := fun _ _ => False
theorem ds_never : DS X st sNever := PS.imp ps_never fun D σ H ⟨B, ρ, E, R, t, k⟩ => t
def sDrop (ta : DT) : DTS := fun E ρ => ta ρ fun _ ρ' => E.nx ρ'
theorem ds_expr (ha : DO X a ta) (hs : swapsWith a none pos.line X.env = pure false := by rfl) : DS X (.Expr a pos) (sDrop ta) := PS.imp (ps_expr ha hs) fun D σ H ⟨B, ρ, E, R, t, k⟩ =>
  ⟨B, ρ, _, R, t, fun o ρ1 v H1 t1 m1 R1 i1 => k.nx _ _ _ t1 m1 R1⟩
def sRet (ta : DT) : DTS := fun E ρ => ta ρ fun o ρ1 => o.tk ρ1 E.rt
theorem ds_ret (ha : DO X a ta) : DS X (.Return (some a) pos) (sRet ta) := PS.imp (ps_ret ha) fun D σ H ⟨B, ρ, E, R, t, k⟩ => by
  refine ⟨B, ρ, _, R, t, fun o ρ1 v H1 t1 m1 R1 i1 => ?_⟩
  obtain ⟨d, ρ2, h2, is, R2, m2⟩ := i1.tk R1 t1
  exact k.rt _ _ _ _ _ h2 (m1.trans m2) R2 is
def sRetN : DTS := fun E ρ => E.rt .none ρ
theorem ds_retN : DS X (.Return none pos) sRetN := PS.imp ps_retN fun D σ H ⟨B, ρ, E, R, t, k⟩ => k.rt _ _ _ _ _ t .refl R .non
def sIf (s : DTT) (u v : DTS) : DTS := fun E ρ => s ρ fun b ρ' => if b = true then u E ρ' else v E ρ'
theorem ds_if {sa sb : List Stmt} (hc : DP X c s) (ha : DSs X sa u) (hb : DSs X sb v) : DS X (.If c sa sb pos) (sIf s u v) := PS.imp (ps_if hc ha hb) fun D σ H ⟨B, ρ, E, R, t, k⟩ => by
  refine ⟨B, ρ, _, R, t, fun b ρ1 H1 t1 m1 R1 => ?_⟩
  cases b with
  | true =>
    rw [if_pos rfl] at t1 ⊢
    exact ⟨B, ρ1, E, R1, t1, k.adv m1⟩
  | false =>
    rw [if_neg Bool.false_ne_true] at t1 ⊢
    exact ⟨B, ρ1, E, R1, t1, k.adv m1⟩
/-- name = value -/
def sSet (i : Nat) (ta : DT) : DTS := fun E ρ => ta ρ fun o ρ1 => o.tk ρ1 fun d ρ2 => E.nx (ρ2.set i (some (.val d)))
theorem ds_set {i : Nat} {x : Str} {pos' : Pos} (hN : X.N.Nodup) (hi : X.N[i]? = some x) (hx : Loc X.env.scope x) (ha : DO X a ta) (hs : swapsWith a (some (.Name x pos')) pos.line X.env = pure false := by rfl) (hf : X.fn x = true ∨ X.env.scope.names.lookup x = some .local := by first | exact .inl rfl | exact .inr rfl | assumption) :
    DS X (.Assign [.Name x pos'] a pos) (sSet i ta) := PS.imp (ps_set hN hi hx ha hs hf) fun D σ H ⟨B, ρ, E, R, t, k⟩ => by
  refine ⟨B, ρ, _, R, t, fun o ρ1 v H1 t1 m1 R1 i1 => ?_⟩
  obtain ⟨d, ρ2, h2, is, R2, m2⟩ := i1.tk R1 t1
  obtain ⟨R3, m3⟩ := R2.setVal (i := i) is
  exact k.nx _ _ _ h2 ((m1.trans m2).trans m3) R3
/-- an expression that makes a container of its own -/
abbrev DTF := DEnv → (PyData → DEnv → Prop) → Prop
def upF (t : DTF) : TE := fun σ H Q => ∃ B ρ q, Rep B ρ σ H ∧ t ρ q ∧ ∀ p d ρ' H', q d ρ' → ¬ B.O p → (B.mu p ∨ B.H0 p = none) → Adv (OW B ρ) (OW (B.plus p) ρ') H H' → Rep (B.plus p) ρ' σ H' → Top (OW (B.plus p) ρ') H' p d → Q (.ref p) H'
abbrev DFr (X : Cx) (e : Expr) (t : DTF) : Prop := PE X e (upF t)
def fLst (t : DTA) : DTF := fun ρ q => t ρ fun os ρ1 => tkAll os ρ1 fun ds ρ2 => ds.length ≤ 16777216 ∧ q (.list ds) ρ2
theorem dfr_lst (h : DA X es t) : DFr X (.List es pos) (fLst t) := PE.imp (pe_lst h) fun σ H Q ⟨B, ρ, q, R, t, k⟩ => by
  refine ⟨B, ρ, _, R, t, fun os ρ1 vs H1 t1 m1 R1 i1 => ?_⟩
  obtain ⟨ds, ρ2, ⟨hl, t2⟩, is, R2, m2⟩ := OAll.tk R1 i1 t1
  refine ⟨by rw [is.length, sizeLine_eq]; exact hl, fun p hp => ?_⟩
  obtain ⟨R3, tp, m3⟩ := R2.fresh hp (.lst is)
  obtain ⟨e1, e2⟩ := R2.entry hp
  exact k _ _ _ _ t2 e1 e2 ((m1.trans m2).trans m3) R3 tp
end
end DL
namespace DL
open PySem PySem.Spec PyProof.Rows L2

/-! ### the base anew -/
/-- from here on: what stands is kept but for the own containers -/
def Bs.re (B : Bs) (ρ : DEnv) (H : Hp) : Bs := ⟨B.O, H, owns ρ⟩
theorem Rep.re {B : Bs} {ρ : DEnv} {σ : L2.St} {H : Hp} (R : Rep B ρ σ H) : Rep (B.re ρ H) ρ σ H :=
  ⟨R.len, R.trk, R.cel, fun i c a h z => let ⟨h1, h2, _⟩ := R.adr i c a h z; ⟨h1, h2, .inl ⟨i, c, h, z⟩⟩, R.inj, fun _ _ h _ => h⟩
theorem Rep.unre_mu {B : Bs} {ρ : DEnv} {σ : L2.St} {H : Hp} (R : Rep B ρ σ H) {a : Addr} (h : owns ρ a ∨ H a = none) : B.mu a ∨ B.H0 a = none := by
  rcases h with ⟨i, d, h, z⟩ | h
  · exact (R.adr i d a h z).2.2
  · exact (R.entry h).2
theorem Rep.unre {B : Bs} {ρ ρ' : DEnv} {σ σ' : L2.St} {H H' : Hp} {O' : Addr → Prop} (R : Rep B ρ σ H) (R' : Rep ⟨O', H, owns ρ⟩ ρ' σ' H') : Rep { B with O := O' } ρ' σ' H' := by
  refine ⟨R'.len, R'.trk, R'.cel, fun i c a h z => ?_, R'.inj, fun b o e n => ?_⟩
  · obtain ⟨h1, h2, h3⟩ := R'.adr i c a h z
    exact ⟨h1, h2, R.unre_mu h3⟩
  · refine R'.keep b o (R.keep b o e n) fun z => ?_
    rcases R.unre_mu (.inl z) with q | q
    · exact n q
    · rw [e] at q; cases q

/-! ### a name is given a new container -/
section
variable {X : Cx} {a b c e : Expr} {es : List Expr} {ta tb tc : DT} {t : DTA} {pos : Pos} {st : Stmt} {rest : List Stmt} {u v : DTS} {s : DTT} {tf : DTF}
def sSetF (i : Nat) (tf : DTF) : DTS := fun E ρ => tf ρ fun d ρ' => ∀ p, E.nx (ρ'.set i (some (.own p d)))
theorem ds_setF {i : Nat} {x : Str} {pos' : Pos} (hN : X.N.Nodup) (hi : X.N[i]? = some x) (hx : Loc X.env.scope x) (ha : DFr X a tf) (hs : swapsWith a (some (.Name x pos')) pos.line X.env = pure false := by rfl) (hf : X.fn x = true ∨ X.env.scope.names.lookup x = some .local := by first | exact .inl rfl | exact .inr rfl | assumption) :
    DS X (.Assign [.Name x pos'] a pos) (sSetF i tf) := PS.imp (ps_set hN hi hx ha hs hf) fun D σ H ⟨B, ρ, E, R, t, k⟩ => by
  refine ⟨B, ρ, _, R, t, fun p d ρ1 H1 t1 n1 n2 m1 R1 tp => ?_⟩
  obtain ⟨R2, m2⟩ := R1.adopt (i := i) tp n1 n2
  exact k.nx _ _ _ (t1 p) (m1.trans m2) R2
/-- a new container that is handed on at once -/
def dOfF (tf : DTF) : DT := fun ρ q => tf ρ fun d ρ' => q (.vl d) ρ'
theorem do_f (ha : DFr X a tf) : DO X a (dOfF tf) := PE.imp ha fun σ H Q ⟨B, ρ, q, R, t, k⟩ => by
  refine ⟨B, ρ, _, R, t, fun p d ρ1 H1 t1 n1 n2 m1 R1 tp => ?_⟩
  obtain ⟨R2, m2⟩ := R1.drop
  have np : ¬ OW B ρ1 p := fun z => z.elim n1 fun ⟨i, c, h, z⟩ => (R1.adr i c p h z).2.1 (.inr rfl)
  exact k _ _ _ _ t1 (m1.trans m2) R2 ((tp.mono m2 rfl).is np)

/-! ### targets -/
abbrev DTG := PyData → DEnv → (DEnv → Prop) → Prop
/-- nothing but the places ws is written -/
def Only (ws : List Nat) (σ σ' : L2.St) : Prop := σ'.length = σ.length ∧ ∀ j, j ∉ ws → σ'[j]? = σ[j]?
theorem Only.refl {ws : List Nat} {σ : L2.St} : Only ws σ σ := ⟨rfl, fun _ _ => rfl⟩
theorem Only.set {i : Nat} {σ : L2.St} {x : Option V} : Only [i] σ (σ.set i x) := ⟨List.length_set .., fun j hj => List.getElem?_set_ne fun e => hj (by simp [e])⟩
theorem Only.app {ws us : List Nat} {σ σ' σ'' : L2.St} (a : Only ws σ σ') (b : Only us σ' σ'') : Only (ws ++ us) σ σ'' :=
  ⟨b.1.trans a.1, fun j hj => (b.2 j fun z => hj (List.mem_append_right _ z)).trans (a.2 j fun z => hj (List.mem_append_left _ z))⟩
def upTg (ws : List Nat) (g : DTG) : TG := fun v σ H Q => ∃ B ρ d q, Rep B ρ σ H ∧ Is (OW B ρ) H v d ∧ g d ρ q ∧ ∀ ρ' σ', q ρ' → Only ws σ σ' → Adv (OW B ρ) (OW B ρ') H H → Rep B ρ' σ' H → Q σ' H
abbrev DTGs := List PyData → DEnv → (DEnv → Prop) → Prop
def upTgs (ws : List Nat) (g : DTGs) : TGs := fun vs σ H Q => ∃ B ρ ds q, Rep B ρ σ H ∧ IsAll (OW B ρ) H vs ds ∧ g ds ρ q ∧ ∀ ρ' σ', q ρ' → Only ws σ σ' → Adv (OW B ρ) (OW B ρ') H H → Rep B ρ' σ' H → Q σ' H
theorem PG.imp {e : Expr} {t t' : TG} (h : PG X e t) (i : ∀ v σ H Q, t' v σ H Q → t v σ H Q) : PG X e t' := ⟨fun pins s σ H v u Q I r hq => h.run pins s σ H v u Q I r (i v σ H Q hq)⟩
theorem PGs.imp {e : List Expr} {t t' : TGs} (h : PGs X e t) (i : ∀ v σ H Q, t' v σ H Q → t v σ H Q) : PGs X e t' := ⟨fun pins s σ H v u Q I r hq => h.run pins s σ H v u Q I r (i v σ H Q hq)⟩
abbrev DG1 (X : Cx) (e : Expr) (ws : List Nat) (g : DTG) : Prop := PG X e (upTg ws g)
abbrev DGs (X : Cx) (e : List Expr) (ws : List Nat) (g : DTGs) : Prop := PGs X e (upTgs ws g)
variable {ws us : List Nat}
def tgN (i : Nat) : DTG := fun d ρ q => q (ρ.set i (some (.val d)))
theorem dg_name {i : Nat} {x : Str} (hN : X.N.Nodup) (hi : X.N[i]? = some x) (hx : Loc X.env.scope x) (hf : X.fn x = true ∨ X.env.scope.names.lookup x = some .local := by first | exact .inl rfl | exact .inr rfl | assumption) : DG1 X (.Name x pos) [i] (tgN i) :=
  PG.imp (pg_name hN hi hx hf) fun v σ H Q ⟨B, ρ, d, q, R, is, t, k⟩ => by
    obtain ⟨R2, m⟩ := R.setVal (i := i) is
    exact k _ _ t .set m R2
def tgNil : DTGs := fun ds ρ q => ds = [] ∧ q ρ
def tgCons (g : DTG) (h : DTGs) : DTGs := fun ds ρ q => match ds with
  | d :: r => g d ρ fun ρ' => h r ρ' q
  | [] => False
theorem dgs_nil : DGs X [] [] tgNil := PGs.imp pgs_nil fun vs σ H Q ⟨B, ρ, d, q, R, is, t, k⟩ => by
  obtain ⟨rfl, t⟩ := t
  cases is
  exact ⟨rfl, k _ _ t .refl .refl R⟩
theorem dgs_cons {g : DTG} {h : DTGs} (h1 : DG1 X e ws g) (h2 : DGs X es us h) (hs : (assignEach (e :: es) X.env).map (·.2) = assign e X.env :: (assignEach es X.env).map (·.2) := by rfl) : DGs X (e :: es) (ws ++ us) (tgCons g h) := PGs.imp (pgs_cons h1 h2 hs) fun vs σ H Q ⟨B, ρ, ds, q, R, is, t, k⟩ => by
  cases ds with
  | nil => exact t.elim
  | cons d ds =>
    cases is with
    | cons i is =>
      refine ⟨_, _, rfl, B, ρ, d, _, R, i, t, fun ρ1 σ1 t1 y1 m1 R1 => ⟨B, ρ1, ds, q, R1, is.mono m1, t1, fun ρ2 σ2 t2 y2 m2 R2 => k _ _ t2 (y1.app y2) (m1.trans m2) R2⟩⟩
def tgTup (n : Nat) (h : DTGs) : DTG := fun d ρ q => match d with
  | .tuple ds => ds.length = n ∧ h ds ρ q
  | _ => False
theorem dg_tup {h : DTGs} {n kk : Nat} (hc : X.calm = true) (h1 : DGs X es ws h) (hn : (assignEach es X.env).length = n := by rfl) (hst : (assignEach es X.env).findIdx? (·.1) = none := by rfl) : DG1 X (.Tuple es kk pos) ws (tgTup n h) := PG.imp (pg_tup hc h1 hn hst) fun v σ H Q ⟨B, ρ, d, q, R, is, t, k⟩ => by
  unfold tgTup at t
  split at t
  · obtain ⟨a, xs, e1, e2, e3⟩ := is.tup'
    exact ⟨a, xs, e1, SqT.of e2, by rw [e3.length]; exact t.1, B, ρ, _, q, R, e3, t.2, k⟩
  · exact t.elim
/-- target = value -/
def sAsg (ta : DT) (g : DTG) : DTS := fun E ρ => ta ρ fun o ρ1 => o.tk ρ1 fun d ρ2 => g d ρ2 E.nx
theorem ds_asg {tg : Expr} {g : DTG} (ha : DO X a ta) (hg : DG1 X tg ws g) (hs : swapsWithSole [tg] a pos.line X.env = pure false := by rfl) (hw : swappedStores [tg] a X.env = pure none := by rfl) (h1 : (assignEach [tg] X.env).map (·.2) = [assign tg X.env] := by rfl) :
    DS X (.Assign [tg] a pos) (sAsg ta g) := PS.imp (ps_asg ha hg hs hw h1) fun D σ H ⟨B, ρ, E, R, t, k⟩ => by
  refine ⟨B, ρ, _, R, t, fun o ρ1 v H1 t1 m1 R1 i1 => ?_⟩
  obtain ⟨d, ρ2, h2, is, R2, m2⟩ := i1.tk R1 t1
  exact ⟨B, ρ2, d, _, R2, is, h2, fun ρ3 σ3 t3 _ m3 R3 => k.nx _ _ _ t3 ((m1.trans m2).trans m3) R3⟩
/-- name op= value -/
def sAug (i : Nat) (g : D2) (ta : DT) : DTS := fun E ρ => (OV.nm i).rd ρ fun d => ta ρ fun o ρ1 => o.rd ρ1 fun e => g d e fun r => E.nx (ρ1.set i (some (.val r)))
theorem ds_aug {i : Nat} {x : Str} {op : Operator} {ti : TIp} {g : D2} {pos' : Pos} (hN : X.N.Nodup) (hi : X.N[i]? = some x) (hx : Loc X.env.scope x) (ha : DO X a ta) (ho : PIp X op ti) (f : Fit2 ti g) (hsc : ∀ d e q, g d e q → flat d = true) (hf : X.fn x = true ∨ X.env.scope.names.lookup x = some .local := by first | exact .inl rfl | exact .inr rfl | assumption) :
    DS X (.AugAssign (.Name x pos') op a pos) (sAug i g ta) := PS.imp (ps_aug hN hi hx ha ho hf) fun D σ H ⟨B, ρ, E, R, t, k⟩ => by
  simp only [sAug, OV.rd] at t
  have go : ∀ {d : PyData} {v : V}, σ[i]? = some (some v) → RdB (OW B ρ) H v d → (ta ρ fun o ρ1 => o.rd ρ1 fun e => g d e fun r => E.nx (ρ1.set i (some (.val r)))) → tAug i (upO ta) ti D σ H := by
    intro d v hv rv t
    refine ⟨v, hv, B, ρ, _, R, t, fun o ρ1 w H1 t1 m1 R1 i1 => ?_⟩
    obtain ⟨e, t2, r2⟩ := i1.rd R1 t1
    have rv1 : RdB (OW B ρ1) H1 v d := by
      have fl := hsc _ _ _ t2
      rcases rv with rv | ⟨a, rfl, u, hu, hh⟩
      · exact .inl (rv.mono m1)
      · cases hh <;> cases fl
    refine f _ H1 v w d e _ _ R1.owt rv1 r2 t2 fun z dz H2 hq hs hz => ?_
    obtain ⟨R3, m3⟩ := (R1.same hs).setVal (i := i) hz
    exact k.nx _ _ _ hq ((m1.trans (.same hs)).trans m3) R3
  split at t
  · rename_i d e
    obtain ⟨w, e1, e2⟩ := R.val i d e
    exact go e1 (.inl e2) t
  · rename_i a d e
    obtain ⟨e1, e2, e3, _⟩ := R.own i a d e
    exact go e1 (.inr ⟨a, rfl, e3⟩) t
  · rename_i a d e
    obtain ⟨w, e1, e2, e3⟩ := R.cel i _ e
    subst e2
    exact go e1 (.inl e3.is) t
  · exact t.elim
theorem ip_addS : PIp X .Add (fun x y H Q => (∃ i j, x = .int i ∧ y = .int j ∧ Q (.int (i + j)) H) ∨ (∃ i j, x = .str i ∧ y = .str j ∧ i.length + j.length ≤ sizeLine ∧ Q (.str (i ++ j)) H)) := by
  intro pins s σ H x y v u Q I r1 r2 h
  rcases h with h | h
  · exact ip_add pins s σ H x y v u Q I r1 r2 h
  · exact iop_add_str pins s σ H x y v u Q I r1 r2 h
theorem gAdd_flat : ∀ d e q, gAdd d e q → flat d = true := fun d e q h => by
  unfold gAdd at h
  split at h
  · rfl
  · rfl
  · exact h.elim
theorem ds_augAdd {i : Nat} {x : Str} {pos' : Pos} (hN : X.N.Nodup) (hi : X.N[i]? = some x) (hx : Loc X.env.scope x) (ha : DO X a ta) (hf : X.fn x = true ∨ X.env.scope.names.lookup x = some .local := by first | exact .inl rfl | exact .inr rfl | assumption) :
    DS X (.AugAssign (.Name x pos') .Add a pos) (sAug i gAdd ta) := ds_aug hN hi hx ha ip_addS (fun O H x y d e q Q tr hx hy h k => fit_add O H x y d e q Q tr hx hy h k) gAdd_flat hf
theorem ds_augSub {i : Nat} {x : Str} {pos' : Pos} (hN : X.N.Nodup) (hi : X.N[i]? = some x) (hx : Loc X.env.scope x) (ha : DO X a ta) (hf : X.fn x = true ∨ X.env.scope.names.lookup x = some .local := by first | exact .inl rfl | exact .inr rfl | assumption) :
    DS X (.AugAssign (.Name x pos') .Sub a pos) (sAug i (gII (fun _ _ => True) fun i j => .int (i - j)) ta) := ds_aug hN hi hx ha ip_sub (fun O H x y d e q Q tr hx hy h k => fit_rI0 O H x y d e q Q tr hx hy h k) (fun d e q h => by
  unfold gII at h
  split at h
  · rfl
  · exact h.elim) hf

/-! ### while -/
def sWhile (s : DTT) (u : DTS) : DTS := fun E ρ => ∃ W : Nat → DEnv → Prop, (∃ m, W m ρ) ∧ ∀ m ρ, W m ρ → s ρ fun b ρ' => if b = true then u { E with nx := fun ρ'' => ∃ m', m' < m ∧ W m' ρ'', ct := fun ρ'' => ∃ m', m' < m ∧ W m' ρ'', bk := E.nx } ρ' else E.nx ρ'
theorem ds_while {body : List Stmt} (hp : PassesOwn (model X.prog X.w) X.A X.env X.xe) (hc : DP X c s) (hb : DSs X body u) : DS X (.While c body [] pos) (sWhile s u) := PS.imp (ps_while hp hc hb) fun D σ H ⟨B, ρ, E, R, t, k⟩ => by
  obtain ⟨W, ⟨m0, w0⟩, turn⟩ := t
  refine ⟨fun m σ' H' => ∃ ρ', Rep B ρ' σ' H' ∧ Adv (OW B ρ) (OW B ρ') H H' ∧ W m ρ', ⟨m0, ρ, R, .refl, w0⟩, ?_⟩
  rintro m σ1 H1 ⟨ρ1, R1, m1, w1⟩
  refine ⟨B, ρ1, _, R1, turn m ρ1 w1, fun b ρ2 H2 t2 m2 R2 => ?_⟩
  cases b with
  | true =>
    rw [if_pos rfl] at t2 ⊢
    have m12 := m1.trans m2
    refine ⟨fun σ' H' => ∃ m', m' < m ∧ ∃ ρ', Rep B ρ' σ' H' ∧ Adv (OW B ρ) (OW B ρ') H H' ∧ W m' ρ', fun σ' H' z => z, B, ρ2, _, R2, t2, ?_⟩
    refine ⟨fun ρ' σ' H' ⟨m', hm, w⟩ ad R' => ⟨m', hm, ρ', R', m12.trans ad, w⟩, fun d ρ' σ' v H' h ad R' is => k.rt _ _ _ _ _ h (m12.trans ad) R' is, fun ρ' σ' H' h ad R' => k.nx _ _ _ h (m12.trans ad) R', fun ρ' σ' H' ⟨m', hm, w⟩ ad R' => ⟨m', hm, ρ', R', m12.trans ad, w⟩⟩
  | false =>
    rw [if_neg Bool.false_ne_true] at t2 ⊢
    exact k.nx _ _ _ t2 (m1.trans m2) R2

/-! ### what is walked -/
/-- the walk yields the data ds, whatever is written to own containers -/
def Src (J : It) (O : Addr → Prop) (H0 : Hp) (ds : List PyData) : Prop := ∀ (i : Nat) (O' : Addr → Prop) (H : Hp), Adv O O' H0 H →
  (∀ d, ds[i]? = some d → J.go i H ∧ ∀ x H', J.yld i H x H' → Same H H' ∧ Is O' H' x d) ∧ (i = ds.length → J.stop i H)
abbrev DTI := DEnv → (List PyData → DEnv → Prop) → Prop
def upI (t : DTI) : TI := fun σ H R => ∃ B ρ q, Rep B ρ σ H ∧ t ρ q ∧ ∀ ds ρ' J H', q ds ρ' → Adv (OW B ρ) (OW B ρ') H H' → Rep B ρ' σ H' → Src J (OW B ρ') H' ds → R J H'
theorem PI.imp {tg e : Expr} {t t' : TI} (h : PI X tg e t) (i : ∀ σ H R, t' σ H R → t σ H R) : PI X tg e t' := ⟨fun pins s σ H R I hq => h.run pins s σ H R I (i σ H R hq)⟩
abbrev DI (X : Cx) (tg e : Expr) (t : DTI) : Prop := PI X tg e (upI t)
theorem src_list {K : PySem.W.Frag} {O : Addr → Prop} {H0 : Hp} {p : Addr} {xs : List V} {ds : List PyData} (n : ¬ O p) (e : H0 p = some (.lst xs)) (is : IsAll O H0 xs ds) : Src (Itl K p) O H0 ds := fun i O' H m => by
  have e' : H p = some (.lst xs) := m.1 _ _ e (.inl n)
  have only : ∀ ys, SqL K H p ys → True := fun _ _ => trivial
  refine ⟨fun d hd => ?_, fun hl => ⟨xs, SqL.of e', by rw [is.length]; exact Nat.le_of_eq hl.symm⟩⟩
  obtain ⟨v, hv, iv⟩ := is.get hd
  refine ⟨⟨xs, v, SqL.of e', hv⟩, fun x H' hy => ?_⟩
  obtain ⟨rfl, hy⟩ := hy
  have ex : x = v := Option.some.inj ((hy xs (SqL.of e')).symm.trans hv)
  subst ex
  exact ⟨Same.refl _, iv.mono m⟩
theorem src_tup {K : PySem.W.Frag} {O : Addr → Prop} {H0 : Hp} {p : Addr} {xs : List V} {ds : List PyData} (e : H0 p = some (.tup xs)) (is : IsAll O H0 xs ds) : Src (Itt K p) O H0 ds := fun i O' H m => by
  have e' : H p = some (.tup xs) := m.1 _ _ e (.inr rfl)
  refine ⟨fun d hd => ?_, fun hl => ⟨xs, SqT.of e', by rw [is.length]; exact Nat.le_of_eq hl.symm⟩⟩
  obtain ⟨v, hv, iv⟩ := is.get hd
  refine ⟨⟨xs, v, SqT.of e', hv⟩, fun x H' hy => ?_⟩
  obtain ⟨rfl, hy⟩ := hy
  have ex : x = v := Option.some.inj ((hy xs (SqT.of e')).symm.trans hv)
  subst ex
  exact ⟨Same.refl _, iv.mono m⟩
def iL (ta : DT) : DTI := fun ρ q => ta ρ fun o ρ1 => o.tk ρ1 fun d ρ2 => match d with
  | .list ds => q ds ρ2
  | _ => False
theorem di_list {tg : Expr} (ha : DO X a ta) : DI X tg a (iL ta) := PI.imp (pi_list ha) fun σ H R' ⟨B, ρ, q, R, t, k⟩ => by
  refine ⟨B, ρ, _, R, t, fun o ρ1 v H1 t1 m1 R1 i1 => ?_⟩
  obtain ⟨d, ρ2, h2, is, R2, m2⟩ := i1.tk R1 t1
  split at h2
  · cases is with
    | lst n e all => exact ⟨_, rfl, ⟨_, SqL.of e⟩, k _ _ _ _ h2 (m1.trans m2) R2 (src_list n e all)⟩
  · exact h2.elim
def iT (ta : DT) : DTI := fun ρ q => ta ρ fun o ρ1 => o.tk ρ1 fun d ρ2 => match d with
  | .tuple ds => q ds ρ2
  | _ => False
theorem di_tup {tg : Expr} (ha : DO X a ta) : DI X tg a (iT ta) := PI.imp (pi_tup ha) fun σ H R' ⟨B, ρ, q, R, t, k⟩ => by
  refine ⟨B, ρ, _, R, t, fun o ρ1 v H1 t1 m1 R1 i1 => ?_⟩
  obtain ⟨d, ρ2, h2, is, R2, m2⟩ := i1.tk R1 t1
  split at h2
  · cases is with
    | tup e all => exact ⟨_, rfl, ⟨_, SqT.of e⟩, k _ _ _ _ h2 (m1.trans m2) R2 (src_tup e all)⟩
  · exact h2.elim
/-- a text, sign by sign -/
def iS (ta : DT) : DTI := fun ρ q => ta ρ fun o ρ1 => o.rd ρ1 fun d => match d with
  | .str x => q ((L x).map fun c => S [c]) ρ1
  | _ => False
theorem di_str {tg : Expr} (ha : DO X a ta) : DI X tg a (iS ta) := PI.imp (pi_str ha) fun σ H R' ⟨B, ρ, q, R, t, k⟩ => by
  refine ⟨B, ρ, _, R, t, fun o ρ1 v H1 t1 m1 R1 i1 => ?_⟩
  obtain ⟨d, h2, r2⟩ := i1.rd R1 t1
  split at h2
  · rename_i x
    refine ⟨x, r2.str, k _ _ _ _ h2 m1 R1 fun i O' H m => ⟨fun d hd => ?_, fun hl => ?_⟩⟩
    · rw [List.getElem?_map] at hd
      cases q : (L x)[i]? with
      | none => rw [q] at hd; cases hd
      | some c =>
        rw [q] at hd
        cases hd
        have q' : x.cps[i]? = some c := by rw [← Array.getElem?_toList]; exact q
        have hi : i < x.cps.size := (Array.getElem?_eq_some_iff.mp q').1
        refine ⟨hi, fun y H' ⟨e, c', hc, ey⟩ => ?_⟩
        rw [q'] at hc
        cases hc
        subst e ey
        exact ⟨Same.refl _, .str _⟩
    · rw [List.length_map, L_len] at hl
      exact Nat.le_of_eq hl.symm
  · exact h2.elim
/-- range(n), range(a, b) -/
def iR1 (t : DTA) : DTI := fun ρ q => t ρ fun os ρ1 => rdAll os ρ1 fun ds => match ds with
  | [.int j] => -4611686018427387904 ≤ j ∧ j < 4611686018427387904 ∧ q ((List.range j.toNat).map fun k => .int (k : Nat)) ρ1
  | _ => False
theorem src_range {O : Addr → Prop} {H0 : Hp} {lo : Int} {n : Nat} : Src (Itr lo n) O H0 ((List.range n).map fun k => .int (lo + (k : Nat))) := fun i O' H m => by
  refine ⟨fun d hd => ?_, fun hl => by rw [List.length_map, List.length_range] at hl; exact Nat.le_of_eq hl.symm⟩
  rw [List.getElem?_map] at hd
  by_cases hi : i < n
  · rw [List.getElem?_range hi] at hd
    cases hd
    refine ⟨hi, fun x H' ⟨e, ex⟩ => ?_⟩
    subst e ex
    exact ⟨Same.refl _, .int _⟩
  · rw [List.getElem?_eq_none (by rw [List.length_range]; omega)] at hd
    cases hd
theorem di_range1 {tg : Expr} {p : Pos} (hg : Gl X "range") (hm : X.mg "range" = none) (ha : DA X [a] t) (hs : starEach [a] X.env = [(false, eval a X.env)] := by rfl) : DI X tg (.Call (.Name "range" p) [a] [] pos) (iR1 t) := PI.imp (pi_range1 hg hm ha hs) fun σ H R' ⟨B, ρ, q, R, t, k⟩ => by
  refine ⟨B, ρ, _, R, t, fun os ρ1 vs H1 t1 m1 R1 i1 => ?_⟩
  obtain ⟨ds, t2, rs⟩ := OAll.rd R1 i1 t1
  split at t2
  · rename_i j
    obtain ⟨x, rfl, r⟩ := rdAll1 rs
    obtain rfl := r.int
    obtain ⟨b1, b2, t2⟩ := t2
    refine ⟨j, rfl, by omega, by omega, k _ _ _ _ t2 m1 R1 ?_⟩
    have := src_range (O := OW B ρ1) (H0 := H1) (lo := 0) (n := j.toNat)
    simpa using this
  · exact t2.elim
def iR2 (t : DTA) : DTI := fun ρ q => t ρ fun os ρ1 => rdAll os ρ1 fun ds => match ds with
  | [.int i, .int j] => (-4611686018427387904 ≤ i ∧ i < 4611686018427387904 ∧ -4611686018427387904 ≤ j ∧ j < 4611686018427387904) ∧ q ((List.range (j - i).toNat).map fun k => .int (i + (k : Nat))) ρ1
  | _ => False
theorem di_range2 {tg : Expr} {p : Pos} (hg : Gl X "range") (hm : X.mg "range" = none) (ha : DA X [a, b] t) (hs : starEach [a, b] X.env = [(false, eval a X.env), (false, eval b X.env)] := by rfl) (hs2 : starEach [b] X.env = [(false, eval b X.env)] := by rfl) : DI X tg (.Call (.Name "range" p) [a, b] [] pos) (iR2 t) := PI.imp (pi_range2 hg hm ha hs hs2) fun σ H R' ⟨B, ρ, q, R, t, k⟩ => by
  refine ⟨B, ρ, _, R, t, fun os ρ1 vs H1 t1 m1 R1 i1 => ?_⟩
  obtain ⟨ds, t2, rs⟩ := OAll.rd R1 i1 t1
  split at t2
  · rename_i i j
    obtain ⟨x, y, rfl, r, r'⟩ := rdAll2 rs
    obtain rfl := r.int
    obtain rfl := r'.int
    obtain ⟨b1, t2⟩ := t2
    exact ⟨i, j, rfl, by omega, k _ _ _ _ t2 m1 R1 src_range⟩
  · exact t2.elim

/-! ### for -/
def forGo (g : DTG) (u : DTS) (E : DEnds) : List PyData → DEnv → Prop
  | [], ρ => E.nx ρ
  | d :: ds, ρ => g d ρ fun ρ1 => u { E with nx := forGo g u E ds, ct := forGo g u E ds, bk := E.nx } ρ1
def sFor (ti : DTI) (g : DTG) (u : DTS) : DTS := fun E ρ => ti ρ fun ds ρ1 => forGo g u E ds ρ1
theorem ds_for {tg iter : Expr} {body : List Stmt} {ti : DTI} {g : DTG} (hp : PassesOwn (model X.prog X.w) X.A X.env X.xe) (hc : X.calm = true) (hi : DI X tg iter ti) (hg : DG1 X tg ws g) (hb : DSs X body u) (hs : ∀ x, foldedSetIterable iter X.env x = pure x := by intro _; rfl) :
    DS X (.For tg iter body [] pos) (sFor ti g u) := PS.imp (ps_for hp hc hi hg hb hs) fun D σ H ⟨B, ρ, E, R, t, k⟩ => by
  refine ⟨B, ρ, _, R, t, fun ds ρ1 J H1 t1 m1 R1 src => ?_⟩
  refine ⟨fun i m σ' H' => ∃ ρ', Rep B ρ' σ' H' ∧ Adv (OW B ρ1) (OW B ρ') H1 H' ∧ forGo g u E (ds.drop i) ρ' ∧ i ≤ ds.length ∧ m = ds.length - i, ⟨ds.length, ρ1, R1, .refl, t1, Nat.zero_le _, rfl⟩, ?_⟩
  rintro i m σ2 H2 ⟨ρ2, R2, m2, f2, hi, rfl⟩
  obtain ⟨s1, s2⟩ := src i _ _ m2
  by_cases hlt : i < ds.length
  · obtain ⟨go, yl⟩ := s1 ds[i] (List.getElem?_eq_getElem hlt)
    refine .inr ⟨go, fun σ' H' => ∃ ρ', Rep B ρ' σ' H' ∧ Adv (OW B ρ1) (OW B ρ') H1 H' ∧ forGo g u E (ds.drop (i + 1)) ρ', fun σ' H' ⟨ρ', R', m', f'⟩ => ⟨ds.length - (i + 1), by omega, ρ', R', m', f', hlt, rfl⟩, fun x H3 hy => ?_⟩
    obtain ⟨hs, is⟩ := yl x H3 hy
    rw [List.drop_eq_getElem_cons hlt] at f2
    refine ⟨B, ρ2, ds[i], _, R2.same hs, is, f2, fun ρ3 σ3 t3 _ m3 R3 => ⟨B, ρ3, _, R3, t3, ?_⟩⟩
    have m13 := (m2.trans (.same hs)).trans m3
    exact ⟨fun ρ' σ' H' h ad R' => ⟨ρ', R', m13.trans ad, h⟩, fun d ρ' σ' v H' h ad R' is => k.rt _ _ _ _ _ h ((m1.trans m13).trans ad) R' is, fun ρ' σ' H' h ad R' => k.nx _ _ _ h ((m1.trans m13).trans ad) R', fun ρ' σ' H' h ad R' => ⟨ρ', R', m13.trans ad, h⟩⟩
  · have e : ds.drop i = [] := List.drop_eq_nil_of_le (by omega)
    rw [e] at f2
    exact .inl ⟨s2 (by omega), k.nx _ _ _ f2 (m1.trans m2) R2⟩
end
end DL
namespace DL
open PySem PySem.Spec PyProof.Rows L2

/-! ### comprehensions -/
/-- the names of a comprehension have no value at its beginning -/
def wipeD (ρ : DEnv) : List Nat → DEnv
  | [] => ρ
  | i :: r => wipeD (ρ.set i none) r
/-- behind a turn they are what they were outside -/
def backD (ρ0 ρ : DEnv) : List Nat → DEnv
  | [] => ρ
  | i :: r => backD ρ0 (ρ.set i (ρ0.getD i none)) r
def plain1 (ρ : DEnv) (i : Nat) : Bool := match ρ[i]? with
  | some (some (.own _ _)) => false
  | some (some (.deep _ _)) => false
  | some (some (.lck _ _)) => false
  | some (some (.grid _ _ _)) => false
  | _ => true
def plainC (ρ : DEnv) (vs : List Nat) : Bool := vs.all (plain1 ρ)
def lcGo (g : DTG) (tt : DTT) (te : DT) (vs : List Nat) : List PyData → List PyData → DEnv → (PyData → DEnv → Prop) → Prop
  | [], acc, ρ, q => q (.list acc) ρ
  | d :: ds, acc, ρ, q => g d (wipeD ρ vs) fun ρ1 => tt ρ1 fun b ρ2 =>
    if b = true then te ρ2 fun o ρ3 => o.tk ρ3 fun e ρ4 => acc.length < 16777216 ∧ plainC (backD ρ ρ4 vs) vs = true ∧ lcGo g tt te vs ds (acc ++ [e]) (backD ρ ρ4 vs) q
    else plainC (backD ρ ρ2 vs) vs = true ∧ lcGo g tt te vs ds acc (backD ρ ρ2 vs) q
def fLc (ti : DTI) (g : DTG) (tt : DTT) (te : DT) (vs : List Nat) : DTF := fun ρ q => ti ρ fun ds ρ1 => plainC ρ1 vs = true ∧ lcGo g tt te vs ds [] ρ1 q

theorem wipe_len (σ : L2.St) : ∀ vs : List Nat, (wipe σ vs).length = σ.length := wipe_length σ
theorem wipe_in {σ : L2.St} {j : Nat} : ∀ {vs : List Nat}, j ∈ vs → (wipe σ vs)[j]? = if j < σ.length then some none else none := by
  intro vs
  induction vs generalizing σ with
  | nil => intro h; simp at h
  | cons i r ih =>
    intro h
    have e : wipe σ (i :: r) = (wipe σ r).set i none ∨ wipe σ (i :: r) = wipe (σ.set i none) r := by first | exact .inl rfl | exact .inr rfl
    rcases e with e | e
    · rw [e]
      by_cases hj : j = i
      · subst hj
        by_cases hl : j < σ.length
        · rw [if_pos hl, List.getElem?_set_self (by rw [wipe_length]; exact hl)]
        · rw [if_neg hl, List.getElem?_eq_none (by rw [List.length_set, wipe_length]; omega)]
      · rw [List.getElem?_set_ne (Ne.symm hj)]
        exact ih ((List.mem_cons.mp h).resolve_left hj)
    · rw [e]
      by_cases hr : j ∈ r
      · rw [ih hr, List.length_set]
      · have hj : j = i := (List.mem_cons.mp h).resolve_right hr
        subst hj
        rw [wipe_out hr]
        by_cases hl : j < σ.length
        · rw [if_pos hl, List.getElem?_set_self hl]
        · rw [if_neg hl, List.getElem?_eq_none (by rw [List.length_set]; omega)]
/-- who differ at vs alone are alike when wiped there -/
theorem wipe_only {σ σ2 : L2.St} {vs : List Nat} (h : ∀ j, j ∉ vs → σ2[j]? = (wipe σ vs)[j]?) (hl : σ2.length = (wipe σ vs).length) : wipe σ2 vs = wipe σ vs := by
  refine List.ext_getElem? fun j => ?_
  by_cases hj : j ∈ vs
  · rw [wipe_in hj, wipe_in hj, hl, wipe_length]
  · rw [wipe_out hj, h j hj]
section
variable {B : Bs} {ρ ρ' : DEnv} {σ σ' : L2.St} {H H' : Hp}
theorem wipeD_len : ∀ (vs : List Nat) (ρ : DEnv), (wipeD ρ vs).length = ρ.length
  | [], _ => rfl
  | i :: r, ρ => by
    show (wipeD (ρ.set i none) r).length = _
    rw [wipeD_len r, List.length_set]
theorem Rep.wipes : ∀ (vs : List Nat) (ρ : DEnv) (σ : L2.St), Rep B ρ σ H → Rep B (wipeD ρ vs) (L2.wipe σ vs) H ∧ Adv (OW B ρ) (OW B (wipeD ρ vs)) H H := by
  intro vs
  induction vs with
  | nil => intro ρ σ R; exact ⟨R, .refl⟩
  | cons i r ih =>
    intro ρ σ R
    have e : L2.wipe σ (i :: r) = (L2.wipe σ r).set i none ∨ L2.wipe σ (i :: r) = L2.wipe (σ.set i none) r := by first | exact .inl rfl | exact .inr rfl
    obtain ⟨R1, m1⟩ := R.wipe (i := i) none
    obtain ⟨R2, m2⟩ := ih _ _ R1
    refine ⟨?_, m1.trans m2⟩
    rcases e with e | e
    · rw [e]
      have e2 : (L2.wipe σ r).set i none = L2.wipe (σ.set i none) r := by
        refine List.ext_getElem? fun j => ?_
        by_cases hj : j = i
        · subst hj
          by_cases hr : j ∈ r
          · rw [wipe_in hr, List.length_set]
            by_cases hl : j < σ.length
            · rw [if_pos hl, List.getElem?_set_self (by rw [wipe_length]; exact hl)]
            · rw [if_neg hl, List.getElem?_eq_none (by rw [List.length_set, wipe_length]; omega)]
          · rw [wipe_out hr]
            by_cases hl : j < σ.length
            · rw [List.getElem?_set_self (by rw [wipe_length]; exact hl), List.getElem?_set_self hl]
            · rw [List.getElem?_eq_none (by rw [List.length_set, wipe_length]; omega), List.getElem?_eq_none (by rw [List.length_set]; omega)]
        · rw [List.getElem?_set_ne (Ne.symm hj)]
          by_cases hr : j ∈ r
          · rw [wipe_in hr, wipe_in hr, List.length_set]
          · rw [wipe_out hr, wipe_out hr, List.getElem?_set_ne (Ne.symm hj)]
      rw [e2]
      exact R2
    · rw [e]
      exact R2
theorem back_get (ρ0 : DEnv) : ∀ (vs : List Nat) (ρ : DEnv) (j : Nat), (backD ρ0 ρ vs)[j]? = if j ∈ vs then (if j < ρ.length then some (ρ0.getD j none) else none) else ρ[j]? := by
  intro vs
  induction vs with
  | nil => intro ρ j; simp [backD]
  | cons i r ih =>
    intro ρ j
    show (backD ρ0 (ρ.set i (ρ0.getD i none)) r)[j]? = _
    rw [ih, List.length_set]
    by_cases hr : j ∈ r
    · rw [if_pos hr, if_pos (List.mem_cons_of_mem _ hr)]
    · rw [if_neg hr]
      by_cases hj : j = i
      · subst hj
        rw [if_pos (List.mem_cons_self ..)]
        by_cases hl : j < ρ.length
        · rw [if_pos hl, List.getElem?_set_self hl]
        · rw [if_neg hl, List.getElem?_eq_none (by rw [List.length_set]; omega)]
      · rw [if_neg (fun z => (List.mem_cons.mp z).elim hj hr), List.getElem?_set_ne (Ne.symm hj)]
theorem plain_val {ρ : DEnv} {i : Nat} {c : Cell} (h : plain1 ρ i = true) (e : ρ[i]? = some (some c)) : ∃ d, c = .val d := by
  unfold plain1 at h
  rw [e] at h
  cases c with
  | val d => exact ⟨d, rfl⟩
  | own a d => cases h
  | deep P d => cases h
  | lck a d => cases h
  | grid a as d => cases h
/-- behind a turn of a comprehension: the names outside -/
theorem Rep.back {B1 : Bs} {vs : List Nat} (R : Rep B1 ρ σ H) (R' : Rep B ρ' σ' H') (m : Adv (OW B1 ρ) (OW B ρ') H H') (hp : plainC ρ vs = true) (ho : ∀ j, j ∉ vs → σ'[j]? = σ[j]?) (hl : σ'.length = σ.length) :
    Rep B (backD ρ ρ' vs) σ H' ∧ Adv (OW B ρ') (OW B (backD ρ ρ' vs)) H' H' := by
  have cell : ∀ (j : Nat) (c : Cell), (backD ρ ρ' vs)[j]? = some (some c) → (j ∈ vs ∧ ∃ d, c = .val d ∧ ρ[j]? = some (some c)) ∨ (j ∉ vs ∧ ρ'[j]? = some (some c)) := fun j c e => by
    rw [back_get] at e
    by_cases hj : j ∈ vs
    · rw [if_pos hj] at e
      split at e
      · have e' : ρ[j]? = some (some c) := by
          have e2 : ρ.getD j none = some c := Option.some.inj e
          rw [List.getD_eq_getElem?_getD] at e2
          cases q : ρ[j]? with
          | none => rw [q] at e2; cases e2
          | some x => rw [q] at e2; exact congrArg some e2
        obtain ⟨d, hd⟩ := plain_val (List.all_eq_true.mp hp j hj) e'
        exact .inl ⟨hj, d, hd, e'⟩
      · cases e
    · rw [if_neg hj] at e
      exact .inr ⟨hj, e⟩
  have sub : ∀ a, OW B (backD ρ ρ' vs) a → OW B ρ' a := fun a z => z.elim .inl fun ⟨j, c, e, z⟩ => by
    rcases cell j c e with ⟨_, d, rfl, _⟩ | ⟨_, e⟩
    · exact z.elim
    · exact .inr ⟨j, c, e, z⟩
  have m2 := Adv.sub (H := H') sub
  have ll : ∀ (vs : List Nat) (ρ' : DEnv), (backD ρ ρ' vs).length = ρ'.length := by
    intro vs
    induction vs with
    | nil => intro ρ'; rfl
    | cons i r ih => intro ρ'; show (backD ρ (ρ'.set i (ρ.getD i none)) r).length = _; rw [ih, List.length_set]
  refine ⟨⟨by rw [ll, R'.len, hl], R'.trk, fun j c e => ?_, fun j c a e z => ?_, fun j k c c' a ej ek z z' => ?_, R'.keep⟩, m2⟩
  · rcases cell j c e with ⟨_, d, rfl, e1⟩ | ⟨hj, e1⟩
    · obtain ⟨v, h1, h2⟩ := R.val j d e1
      exact ⟨v, h1, Is.mono m2 (Is.mono m h2)⟩
    · obtain ⟨v, h1, h2⟩ := R'.cel j c e1
      exact ⟨v, by rw [← ho j hj]; exact h1, h2.mono m2 (fun _ _ _ e => e) fun _ _ e _ => e⟩
  · rcases cell j c e with ⟨_, d, rfl, e1⟩ | ⟨hj, e1⟩
    · exact z.elim
    · exact R'.adr j c a e1 z
  · rcases cell j c ej with ⟨_, d, rfl, e1⟩ | ⟨hj, e1⟩
    · exact z.elim
    · rcases cell k c' ek with ⟨_, d, rfl, e2⟩ | ⟨hk, e2⟩
      · exact z'.elim
      · exact R'.inj j k c c' a e1 e2 z z'
/-- a container of the callers' (or of no name) is written -/
theorem Rep.writeO (R : Rep B ρ σ H) {p : Addr} {u : HO} (hO : B.O p) (hm : B.mu p ∨ B.H0 p = none) (hu : isTup u = false) : Rep B ρ σ (upd H p u) ∧ Adv (OW B ρ) (OW B ρ) H (upd H p u) := by
  have nt : ∀ b o, H b = some o → isTup o = true → b ≠ p := fun b o e k z => by
    subst z
    obtain ⟨o', e', t'⟩ := R.trk b hO
    rw [e] at e'; cases e'; rw [k] at t'; cases t'
  have m : Adv (OW B ρ) (OW B ρ) H (upd H p u) := by
    refine ⟨fun b o e k => ?_, fun _ _ _ k => k⟩
    have ne : b ≠ p := by
      rintro rfl
      rcases k with k | k
      · exact k (.inl hO)
      · exact nt _ o e k rfl
    rw [upd_ne ne]; exact e
  refine ⟨⟨R.len, fun a h => ?_, fun i c h => ?_, fun i c a h z => ?_, R.inj, fun b o e n => ?_⟩, m⟩
  · by_cases e : a = p
    · subst e; exact ⟨u, upd_same, hu⟩
    · obtain ⟨o, h1, h2⟩ := R.trk a h
      exact ⟨o, by rw [upd_ne e]; exact h1, h2⟩
  · obtain ⟨v, h1, h2⟩ := R.cel i c h
    refine ⟨v, h1, h2.mono m (fun a o z e => ?_) fun a o e k => by rw [upd_ne (nt a o e k)]; exact e⟩
    rw [upd_ne (show a ≠ p from fun q => (R.adr i c a h z).2.1 (q ▸ hO))]
    exact e
  · obtain ⟨⟨o, h1, h2⟩, h3, h4⟩ := R.adr i c a h z
    exact ⟨⟨o, by rw [upd_ne (show a ≠ p from fun q => h3 (q ▸ hO))]; exact h1, h2⟩, h3, h4⟩
  · have ne : b ≠ p := fun z => by
      subst z
      rcases hm with z | z
      · exact n z
      · rw [z] at e; cases e
    rw [upd_ne ne]
    exact R.keep b o e n
end
section
variable {X : Cx} {elt tg iter : Expr} {ifs : List Expr} {scope : Scope} {own : List (Str × Nat)} {pos : Pos} {ti : DTI} {g : DTG} {tt : DTT} {te : DT} {ws vs : List Nat}
theorem upLc {σ : L2.St} {H : Hp} {Q : VK} (hws : ∀ i ∈ ws, i ∈ vs) (h : upF (fLc ti g tt te vs) σ H Q) : tLc (upI ti) (upTg ws g) (upT tt) (upO te) vs σ H Q := by
  obtain ⟨B, ρ, q, R, t, k⟩ := h
  refine ⟨B, ρ, _, R, t, fun ds ρ1 J H1 t1 m1 R1 src D hD => ?_⟩
  obtain ⟨hp1, t1⟩ := t1
  obtain ⟨e1, e2⟩ := R1.entry hD
  obtain ⟨R1', tp1, m1'⟩ := R1.fresh (p := D) (u := .lst []) (d := .list []) hD (.lst .nil)
  refine ⟨fun i m H' => ∃ ρ' acc xs, Rep (B.plus D) ρ' σ H' ∧ Adv (OW B ρ1) (OW (B.plus D) ρ') H1 H' ∧ H' D = some (.lst xs) ∧ IsAll (OW (B.plus D) ρ') H' xs acc ∧ plainC ρ' vs = true ∧ lcGo g tt te vs (ds.drop i) acc ρ' q ∧ i ≤ ds.length ∧ m = ds.length - i,
    ⟨ds.length, ρ1, [], [], R1', m1', upd_same, .nil, hp1, t1, Nat.zero_le _, rfl⟩, ?_⟩
  rintro i m H2 ⟨ρ2, acc, xs, R2, m2, hD2, all, hp2, f2, hi, rfl⟩
  obtain ⟨s1, s2⟩ := src i _ _ m2
  by_cases hlt : i < ds.length
  · obtain ⟨go, yl⟩ := s1 ds[i] (List.getElem?_eq_getElem hlt)
    refine .inr ⟨go, fun H' => ∃ ρ' acc xs, Rep (B.plus D) ρ' σ H' ∧ Adv (OW B ρ1) (OW (B.plus D) ρ') H1 H' ∧ H' D = some (.lst xs) ∧ IsAll (OW (B.plus D) ρ') H' xs acc ∧ plainC ρ' vs = true ∧ lcGo g tt te vs (ds.drop (i + 1)) acc ρ' q,
      fun H' ⟨ρ', acc', xs', a1, a2, a3, a4, a5, a6⟩ => ⟨ds.length - (i + 1), by omega, ρ', acc', xs', a1, a2, a3, a4, a5, a6, hlt, rfl⟩, fun x H3 hy => ?_⟩
    obtain ⟨hs, is⟩ := yl x H3 hy
    have R3 := R2.same hs
    have ms : Adv (OW (B.plus D) ρ2) (OW (B.plus D) ρ2) H2 H3 := .same hs
    have hD3 : H3 D = some (.lst xs) := hs _ _ hD2
    obtain ⟨Rw, mw⟩ := Rep.wipes vs ρ2 σ R3
    have Rr := Rw.re
    rw [List.drop_eq_getElem_cons hlt] at f2
    refine ⟨_, wipeD ρ2 vs, ds[i], _, Rr, is.mono mw, f2, fun ρ3 σ3 t3 y3 m3 R3' => ⟨wipe_only (fun j hj => y3.2 j fun z => hj (hws j z)) y3.1, _, ρ3, _, R3', t3, fun b ρ4 H4 t4 m4 R4 => ?_⟩⟩
    have nD : ¬ owns (wipeD ρ2 vs) D := fun ⟨j, c, e, z⟩ => (Rw.adr j c D e z).2.1 (.inr rfl)
    have agree : ∀ j, j ∉ vs → σ3[j]? = σ[j]? := fun j hj => (y3.2 j fun z => hj (hws j z)).trans (wipe_out hj)
    have slen : σ3.length = σ.length := y3.1.trans (wipe_length _ _)
    -- the turn's end
    have fin : ∀ {ρ5 : DEnv} {H5 : Hp}, Rep ((B.plus D).re (wipeD ρ2 vs) H3) ρ5 σ3 H5 → Adv (OW ((B.plus D).re (wipeD ρ2 vs) H3) (wipeD ρ2 vs)) (OW ((B.plus D).re (wipeD ρ2 vs) H3) ρ5) H3 H5 →
        Rep (B.plus D) (backD ρ2 ρ5 vs) σ H5 ∧ Adv (OW (B.plus D) ρ2) (OW (B.plus D) (backD ρ2 ρ5 vs)) H2 H5 ∧ H5 D = some (.lst xs) ∧ Adv (OW (B.plus D) ρ5) (OW (B.plus D) (backD ρ2 ρ5 vs)) H5 H5 := by
      intro ρ5 H5 R5 m5
      have R5' : Rep (B.plus D) ρ5 σ3 H5 := Rw.unre R5
      have m35 : Adv (OW (B.plus D) ρ2) (OW (B.plus D) ρ5) H3 H5 := mw.trans m5
      obtain ⟨R6, m6⟩ := R3.back R5' m35 hp2 agree slen
      exact ⟨R6, (ms.trans m35).trans m6, R5.keep D _ hD3 nD, m6⟩
    cases b with
    | true =>
      dsimp only
      rw [if_pos rfl] at t4 ⊢
      refine ⟨_, ρ4, _, R4, t4, fun o ρ5 y H5 t5 m5 R5 i5 => ?_⟩
      obtain ⟨e, ρ6, ⟨hl, hp6, t6⟩, ie, R6, m6⟩ := i5.tk R5 t5
      obtain ⟨R7, m7, hD7, m67⟩ := fin R6 (((m3.trans m4).trans m5).trans m6)
      obtain ⟨R8, m8⟩ := R7.writeO (p := D) (u := .lst (xs ++ [y])) (.inr rfl) e2 rfl
      have ie' : Is (OW (B.plus D) ρ6) H5 y e := ie
      refine ⟨xs, hD7, by rw [all.length, sizeLine_eq]; exact hl, backD ρ2 ρ6 vs, acc ++ [e], xs ++ [y], R8, (m2.trans m7).trans m8, upd_same, ?_, hp6, t6⟩
      exact ((all.mono m7).mono m8).append (.cons ((ie'.mono m67).mono m8) .nil)
    | false =>
      dsimp only
      rw [if_neg Bool.false_ne_true] at t4 ⊢
      obtain ⟨R7, m7, hD7, m67⟩ := fin R4 (m3.trans m4)
      exact ⟨backD ρ2 ρ4 vs, acc, xs, R7, m2.trans m7, hD7, all.mono m7, t4.1, t4.2⟩
  · have e : ds.drop i = [] := List.drop_eq_nil_of_le (by omega)
    rw [e] at f2
    exact .inl ⟨s2 (by omega), k _ _ _ _ f2 e1 e2 (m1.trans m2) R2 ⟨_, hD2, .lst all⟩⟩
def dYes : DTT := fun ρ q => q true ρ
theorem dts_nil : PTs X [] (upT dYes) := ⟨fun pins s σ H Q I ⟨B, ρ, q, R, t, k⟩ => pts_nil.run pins s σ H Q I (k _ _ _ t .refl R)⟩
theorem dts_one {c : Expr} {s : DTT} (h : DP X c s) : PTs X [c] (upT s) := pts_one h
theorem dfr_lc (hws : ∀ i ∈ ws, i ∈ own.map (·.2)) (hc : X.calm = true) (hN : X.N.Nodup) (hi : DI X tg iter ti) (ok : BlkOk X.N X.env.scope scope own)
    (hg : ∀ (s : Shared) (H : Hp) (C : Addr) (cl : List (Str × Addr)) (fp : List Addr), DG1 (X.blk s H scope (compEnvC scope cl C X.env) fp) tg ws g) (ht : ∀ (s : Shared) (H : Hp) (C : Addr) (cl : List (Str × Addr)) (fp : List Addr), PTs (X.blk s H scope (compEnvC scope cl C X.env) fp) ifs (upT tt))
    (he : ∀ (s : Shared) (H : Hp) (C : Addr) (cl : List (Str × Addr)) (fp : List Addr), DO (X.blk s H scope (compEnvC scope cl C X.env) fp) elt te) (hs : ∀ x, foldedSetIterable iter X.env x = pure x := by intro _; rfl) :
    DFr X (.ListComp elt [⟨tg, iter, ifs, 0⟩] scope pos) (fLc ti g tt te (own.map (·.2))) := PE.imp (pe_lc hc hN hi ok hg ht he hs) fun _ _ _ h => upLc hws h
theorem ds_setLc {i : Nat} {y : Str} {py spos : Pos} (hws : ∀ i ∈ ws, i ∈ own.map (·.2)) (hc : X.calm = true) (hN : X.N.Nodup) (hy : X.N[i]? = some y) (hyl : X.env.scope.names.lookup y = some .local)
    (hsw : swapsWith (.ListComp elt [⟨tg, iter, ifs, 0⟩] scope pos) (some (.Name y py)) spos.line X.env = pure true) (hi : DI X tg iter ti) (ok : BlkOk X.N X.env.scope scope own)
    (hg : ∀ (s : Shared) (H : Hp) (C : Addr) (cl : List (Str × Addr)) (fp : List Addr), DG1 (X.blk s H scope (compEnvC scope cl C X.env) fp) tg ws g) (ht : ∀ (s : Shared) (H : Hp) (C : Addr) (cl : List (Str × Addr)) (fp : List Addr), PTs (X.blk s H scope (compEnvC scope cl C X.env) fp) ifs (upT tt))
    (he : ∀ (s : Shared) (H : Hp) (C : Addr) (cl : List (Str × Addr)) (fp : List Addr), DO (X.blk s H scope (compEnvC scope cl C X.env) fp) elt te) (hs : ∀ x, foldedSetIterable iter X.env x = pure x := by intro _; rfl) :
    DS X (.Assign [.Name y py] (.ListComp elt [⟨tg, iter, ifs, 0⟩] scope pos) spos) (sSetF i (fLc ti g tt te (own.map (·.2)))) := PS.imp (ps_setLc hc hN hy hyl hsw hi ok hg ht he hs) fun D σ H ⟨B, ρ, E, R, t, k⟩ => by
  refine upLc (Q := fun x H1 => gName i x σ H1 D.nx) hws ⟨B, ρ, _, R, t, fun p d ρ1 H1 t1 n1 n2 m1 R1 tp => ?_⟩
  obtain ⟨R2, m2⟩ := R1.adopt (i := i) tp n1 n2
  exact k.nx _ _ _ (t1 p) (m1.trans m2) R2
end

section
variable {X : Cx} {elt tg iter : Expr} {ifs : List Expr} {scope : Scope} {own : List (Str × Nat)} {pos : Pos} {ti : DTI} {g : DTG} {tt : DTT} {te : DT} {ws vs : List Nat}
/-- a name is given a comprehension's list, which is not written any more -/
def sSetV (i : Nat) (tf : DTF) : DTS := fun E ρ => tf ρ fun d ρ' => E.nx (ρ'.set i (some (.val d)))
theorem ds_setLcV {i : Nat} {y : Str} {py spos : Pos} (hws : ∀ i ∈ ws, i ∈ own.map (·.2)) (hc : X.calm = true) (hN : X.N.Nodup) (hy : X.N[i]? = some y) (hyl : X.env.scope.names.lookup y = some .local)
    (hsw : swapsWith (.ListComp elt [⟨tg, iter, ifs, 0⟩] scope pos) (some (.Name y py)) spos.line X.env = pure true) (hi : DI X tg iter ti) (ok : BlkOk X.N X.env.scope scope own)
    (hg : ∀ (s : Shared) (H : Hp) (C : Addr) (cl : List (Str × Addr)) (fp : List Addr), DG1 (X.blk s H scope (compEnvC scope cl C X.env) fp) tg ws g) (ht : ∀ (s : Shared) (H : Hp) (C : Addr) (cl : List (Str × Addr)) (fp : List Addr), PTs (X.blk s H scope (compEnvC scope cl C X.env) fp) ifs (upT tt))
    (he : ∀ (s : Shared) (H : Hp) (C : Addr) (cl : List (Str × Addr)) (fp : List Addr), DO (X.blk s H scope (compEnvC scope cl C X.env) fp) elt te) (hs : ∀ x, foldedSetIterable iter X.env x = pure x := by intro _; rfl) :
    DS X (.Assign [.Name y py] (.ListComp elt [⟨tg, iter, ifs, 0⟩] scope pos) spos) (sSetV i (fLc ti g tt te (own.map (·.2)))) := PS.imp (ps_setLc hc hN hy hyl hsw hi ok hg ht he hs) fun D σ H ⟨B, ρ, E, R, t, k⟩ => by
  refine upLc (Q := fun x H1 => gName i x σ H1 D.nx) hws ⟨B, ρ, _, R, t, fun p d ρ1 H1 t1 n1 n2 m1 R1 tp => ?_⟩
  have np : ¬ OW B ρ1 p := fun z => z.elim n1 fun ⟨i, c, h, z⟩ => (R1.adr i c p h z).2.1 (.inr rfl)
  obtain ⟨R2, m2⟩ := R1.drop
  obtain ⟨R3, m3⟩ := R2.setVal (i := i) ((tp.mono m2 rfl).is np)
  exact k.nx _ _ _ t1 ((m1.trans m2).trans m3) R3
end

/-! ### lists that are written -/
section
variable {X : Cx} {a b c e : Expr} {es : List Expr} {ta tb tc : DT} {t : DTA} {pos : Pos} {x : Str}
def sAppend (i : Nat) (ta : DT) : DTS := fun E ρ => match ρ[i]? with
  | some (some (.own _ (.list _))) => ta ρ fun o ρ1 => o.tk ρ1 fun d ρ2 => match ρ2[i]? with
    | some (some (.own a (.list ds))) => ds.length < 16777216 ∧ E.nx (ρ2.set i (some (.own a (.list (ds ++ [d])))))
    | _ => False
  | _ => False
theorem Top.lst_of {O : Addr → Prop} {H : Hp} {a : Addr} {ds : List PyData} (h : Top O H a (.list ds)) : ∃ xs, H a = some (.lst xs) ∧ IsAll O H xs ds := by
  obtain ⟨u, e, h⟩ := h
  cases h with
  | lst r => exact ⟨_, e, r⟩
theorem ds_append {i : Nat} {p apos cpos : Pos} (hx : PE X (.Name x p) (tVar i)) (ha : DO X e ta) (hbase : attributeBase (.Name x p) "append" X.env (eval (.Name x p) X.env) = eval (.Name x p) X.env := by rfl)
    (hfew : ((backTo cpos (starEach [e] X.env)).all (fun x => !x.1) && (backToKw cpos (keywordEach [] X.env)).all (fun x => x.1.isSome) && decide (([e] : List Expr).length + ([] : List Keyword).length + (if ([] : List Keyword).isEmpty then 0 else 1) < 30)) = true := by rfl)
    (hline : (apos.endLine == cpos.line) = true := by rfl) (hs : starEach [e] X.env = (false, eval e X.env) :: starEach [] X.env := by rfl) (hplain : (backTo cpos (starEach [] X.env)).any (·.1) = false := by rfl)
    (hsw : swapsWith (.Call (.Attribute (.Name x p) "append" apos) [e] [] cpos) none pos.line X.env = pure false := by rfl) :
    DS X (.Expr (.Call (.Attribute (.Name x p) "append" apos) [e] [] cpos) pos) (sAppend i ta) :=
  PS.imp (ps_expr (pe_bm PySem.F.plainAttrs_list PySem.F.slot_list_append PySem.F.type_list_append mt_append hx (pa_cons ha pa_nil hs) hbase hfew hline hs hplain) hsw) fun D σ H ⟨B, ρ, E, R, t, k⟩ => by
  unfold sAppend at t
  split at t
  · rename_i a0 ds0 h0
    obtain ⟨g1, g2, g3, g4⟩ := R.own i a0 _ h0
    obtain ⟨xs0, hx0, _⟩ := g3.lst_of
    refine ⟨_, g1, .inl ⟨rfl, xs0, SqL.of hx0⟩, B, ρ, _, R, t, fun o ρ1 v H1 t1 m1 R1 i1 => ?_⟩
    obtain ⟨d, ρ2, h2, is, R2, m2⟩ := i1.tk R1 t1
    split at h2
    · rename_i a1 ds hc
      obtain ⟨f1, f2, f3, f4⟩ := R2.own i a1 _ hc
      rw [g1] at f1
      cases f1
      obtain ⟨xs, hx1, all⟩ := f3.lst_of
      obtain ⟨R3, m3⟩ := R2.write (u := .lst (xs ++ [v])) hc (.lst (all.append (.cons is .nil)))
      exact ⟨a0, xs, v, rfl, rfl, hx1, by rw [all.length, sizeLine_eq]; exact h2.1, k.nx _ _ _ h2.2 ((m1.trans m2).trans m3) R3⟩
    · exact h2.elim
  · exact t.elim
def sExtend (i : Nat) (ta : DT) : DTS := fun E ρ => match ρ[i]? with
  | some (some (.own _ (.list _))) => ta ρ fun o ρ1 => o.tk ρ1 fun d ρ2 => match d with
    | .list es => match ρ2[i]? with
      | some (some (.own a (.list ds))) => ds.length + es.length ≤ 16777216 ∧ E.nx (ρ2.set i (some (.own a (.list (ds ++ es)))))
      | _ => False
    | _ => False
  | _ => False
theorem ds_extend {i : Nat} {p apos cpos : Pos} (hx : PE X (.Name x p) (tVar i)) (ha : DO X e ta) (hbase : attributeBase (.Name x p) "extend" X.env (eval (.Name x p) X.env) = eval (.Name x p) X.env := by rfl)
    (hfew : ((backTo cpos (starEach [e] X.env)).all (fun x => !x.1) && (backToKw cpos (keywordEach [] X.env)).all (fun x => x.1.isSome) && decide (([e] : List Expr).length + ([] : List Keyword).length + (if ([] : List Keyword).isEmpty then 0 else 1) < 30)) = true := by rfl)
    (hline : (apos.endLine == cpos.line) = true := by rfl) (hs : starEach [e] X.env = (false, eval e X.env) :: starEach [] X.env := by rfl) (hplain : (backTo cpos (starEach [] X.env)).any (·.1) = false := by rfl)
    (hsw : swapsWith (.Call (.Attribute (.Name x p) "extend" apos) [e] [] cpos) none pos.line X.env = pure false := by rfl) :
    DS X (.Expr (.Call (.Attribute (.Name x p) "extend" apos) [e] [] cpos) pos) (sExtend i ta) :=
  PS.imp (ps_expr (pe_bm PySem.F.plainAttrs_list PySem.F.slot_list_extend PySem.F.type_list_extend mt_extend hx (pa_cons ha pa_nil hs) hbase hfew hline hs hplain) hsw) fun D σ H ⟨B, ρ, E, R, t, k⟩ => by
  unfold sExtend at t
  split at t
  · rename_i a0 ds0 h0
    obtain ⟨g1, g2, g3, g4⟩ := R.own i a0 _ h0
    obtain ⟨xs0, hx0, _⟩ := g3.lst_of
    refine ⟨_, g1, .inl ⟨rfl, xs0, SqL.of hx0⟩, B, ρ, _, R, t, fun o ρ1 v H1 t1 m1 R1 i1 => ?_⟩
    obtain ⟨d, ρ2, h2, is, R2, m2⟩ := i1.tk R1 t1
    split at h2
    · rename_i es
      split at h2
      · rename_i a1 ds hc
        obtain ⟨f1, f2, f3, f4⟩ := R2.own i a1 _ hc
        rw [g1] at f1
        cases f1
        obtain ⟨xs, hx1, all⟩ := f3.lst_of
        obtain ⟨b1, zs, rfl, hb1, all2⟩ := is.lst'
        obtain ⟨R3, m3⟩ := R2.write (u := .lst (xs ++ zs)) hc (.lst (all.append all2))
        exact ⟨a0, b1, xs, zs, rfl, rfl, hx1, hb1, by rw [all.length, all2.length, sizeLine_eq]; exact h2.1, k.nx _ _ _ h2.2 ((m1.trans m2).trans m3) R3⟩
      · exact h2.elim
    · exact h2.elim
  · exact t.elim
/-- xs[i] = e -/
def sSetIx (i : Nat) (ti ta : DT) : DTS := fun E ρ => ta ρ fun o ρ1 => o.tk ρ1 fun d ρ2 => match ρ2[i]? with
  | some (some (.own _ _)) => ti ρ2 fun oi ρ3 => oi.rd ρ3 fun di => match di with
    | .int n => match ρ3[i]? with
      | some (some (.own a (.list ds))) => ∃ j, ixN ds.length n = some j ∧ E.nx (ρ3.set i (some (.own a (.list (ds.set j d)))))
      | _ => False
    | _ => False
  | _ => False
theorem ds_setIx {i : Nat} {ix : Expr} {ti : DT} {p spos : Pos} (hx : PE X (.Name x p) (tVar i)) (hi : DO X ix ti) (ha : DO X e ta) (hs : swapsWithSole [.Subscript (.Name x p) ix spos] e pos.line X.env = pure false := by rfl) (hw : swappedStores [.Subscript (.Name x p) ix spos] e X.env = pure none := by rfl)
    (h1 : (assignEach [.Subscript (.Name x p) ix spos] X.env).map (·.2) = [assign (.Subscript (.Name x p) ix spos) X.env] := by rfl)
    (hga : ∀ v, assign (.Subscript (.Name x p) ix spos) X.env v = (do
      let ov ← holding [v] (eval (.Name x p) X.env)
      let iv ← holding [v, ov] (eval ix X.env)
      standAt spos
      holding [v, ov, iv] (setItem ov iv v)
      release [v, ov, iv] []) := by intro _; rfl) :
    DS X (.Assign [.Subscript (.Name x p) ix spos] e pos) (sSetIx i ti ta) := PS.imp (ps_asg ha (pg_sub hx hi set_list hga) hs hw h1) fun D σ H ⟨B, ρ, E, R, t, k⟩ => by
  refine ⟨B, ρ, _, R, t, fun o ρ1 v H1 t1 m1 R1 i1 => ?_⟩
  obtain ⟨d, ρ2, h2, is, R2, m2⟩ := i1.tk R1 t1
  split at h2
  · rename_i a0 d0 h0
    obtain ⟨g1, g2, g3, g4⟩ := R2.own i a0 _ h0
    refine ⟨_, g1, B, ρ2, _, R2, h2, fun oi ρ3 w H3 t3 m3 R3 i3 => ?_⟩
    obtain ⟨di, h4, r4⟩ := i3.rd R3 t3
    split at h4
    · rename_i n
      split at h4
      · rename_i a1 ds hc
        obtain ⟨j, hj, nx⟩ := h4
        obtain ⟨f1, f2, f3, f4⟩ := R3.own i a1 _ hc
        rw [g1] at f1
        cases f1
        obtain ⟨xs, hx1, all⟩ := f3.lst_of
        obtain ⟨R4, m4⟩ := R3.write (u := .lst (xs.set j v)) hc (.lst (IsAll.set (is.mono m3) j all))
        exact ⟨a0, xs, n, j, rfl, r4.int, hx1, by rw [all.length]; exact hj, k.nx _ _ _ nx (((m1.trans m2).trans m3).trans m4) R4⟩
      · exact h4.elim
    · exact h4.elim
  · exact h2.elim
/-- xs.pop() -/
def dPop (i : Nat) : DT := fun ρ q => match ρ[i]? with
  | some (some (.own a (.list ds))) => ∃ d, ds[ds.length - 1]? = some d ∧ q (.vl d) (ρ.set i (some (.own a (.list ds.dropLast))))
  | _ => False
theorem do_pop {i : Nat} {p apos : Pos} (hx : PE X (.Name x p) (tVar i)) (hbase : attributeBase (.Name x p) "pop" X.env (eval (.Name x p) X.env) = eval (.Name x p) X.env := by rfl) (hline : (apos.endLine == pos.line) = true := by rfl) :
    DO X (.Call (.Attribute (.Name x p) "pop" apos) [] [] pos) (dPop i) := PE.imp (pe_bm0 PySem.F.plainAttrs_list PySem.F.slot_list_pop PySem.F.type_list_pop mt_pop hx hbase hline) fun σ H Q ⟨B, ρ, q, R, t, k⟩ => by
  unfold dPop at t
  split at t
  · rename_i a0 ds h0
    obtain ⟨d, hd, t⟩ := t
    obtain ⟨g1, g2, g3, g4⟩ := R.own i a0 _ h0
    obtain ⟨xs, hx0, all⟩ := g3.lst_of
    obtain ⟨v, hv, iv⟩ := all.get hd
    obtain ⟨R4, m4⟩ := R.write (u := .lst xs.dropLast) h0 (.lst all.dropLast)
    exact ⟨_, g1, .inl ⟨rfl, xs, SqL.of hx0⟩, a0, xs, v, rfl, rfl, hx0, by rw [all.length]; exact hv, k _ _ _ _ t m4 R4 (iv.mono m4)⟩
  · exact t.elim
end

/-! ### a def keeps its promise -/
/-- the names at the entry -/
def startD (m : Bool) (a : Addr) (n : Nat) (ds : List PyData) : DEnv :=
  (match m, ds with
    | true, d :: r => some (.own a d) :: r.map fun d => some (.val d)
    | _, ds => ds.map fun d => some (.val d)) ++ List.replicate (n - ds.length) none
/-- what is wanted at the end -/
def endsD (m : Bool) (a : Addr) (q : PyData → PyData → Prop) : DEnds where
  nx := fun ρ => match m with
    | true => ∃ e, ρ[0]? = some (some (.own a e)) ∧ q .none e
    | false => q .none .none
  rt := fun d ρ => match m with
    | true => ∃ e, ρ[0]? = some (some (.own a e)) ∧ q d e
    | false => q d .none
section
variable {P : Program} {w : World} {K : PySem.W.Frag} {mg : Str → Option Value} {base : Heap} {x qual : Str} {params : Arguments} {body : List Stmt} {scope : Scope} {f : Addr} {fd : FuncData}
theorem vals_get {O : Addr → Prop} {H : Hp} {vs : List V} {ds : List PyData} {n : Nat} (h : IsAll O H vs ds) {i : Nat} {c : Cell} (e : (ds.map (fun d => some (Cell.val d)) ++ List.replicate n none)[i]? = some (some c)) : ∃ d v, c = .val d ∧ vs[i]? = some v ∧ Is O H v d ∧ i < ds.length := by
  by_cases hi : i < ds.length
  · rw [List.getElem?_append_left (by rw [List.length_map]; exact hi), List.getElem?_map, List.getElem?_eq_getElem hi] at e
    cases e
    obtain ⟨v, h1, h2⟩ := h.get (List.getElem?_eq_getElem hi)
    exact ⟨_, v, rfl, h1, h2, hi⟩
  · rw [List.getElem?_append_right (by rw [List.length_map]; omega), List.getElem?_replicate] at e
    split at e <;> cases e
theorem start_get {N : List Str} {vs : List V} {i : Nat} {v : V} (h : vs[i]? = some v) : (L2.start N vs)[i]? = some (some v) := by
  have hi : i < vs.length := (List.getElem?_eq_some_iff.mp h).1
  unfold L2.start
  rw [List.getElem?_append_left (by rw [List.length_map]; exact hi), List.getElem?_map, h]
  rfl
/-- a promise, told at the entry -/
theorem spD_up {N ps : List Str} {n : Nat} {m : Bool} {F : DF} {t : DTS} (S : FnScope N ps scope) (hn : ps.length = n)
    (hF : ∀ ds q a, ds.length = n → F ds q → t (endsD m a q) (startD m a N.length ds)) {vs : List V} {H : Hp} {Q : VK} {E : XK} (h : spD m n F vs H Q E) : upS t { nx := fun _ H' => Q .non H', rt := Q } (L2.start N vs) H := by
  have hpl : ps.length ≤ N.length := by
    have := congrArg List.length S.pre
    rw [List.length_take] at this
    omega
  obtain ⟨hl, O, ds, q, trk, hq, h⟩ := h
  cases m with
  | false =>
    rw [if_neg Bool.false_ne_true] at h
    obtain ⟨all, hQ⟩ := h
    have dl : ds.length = n := by rw [← all.length, hl]
    have e0 : startD false 0 N.length ds = ds.map (fun d => some (Cell.val d)) ++ List.replicate (N.length - ds.length) none := by cases ds <;> rfl
    have t0 := hF ds q 0 dl hq
    rw [e0] at t0
    have nown : ∀ b, ¬ owns (ds.map (fun d => some (Cell.val d)) ++ List.replicate (N.length - ds.length) none) b := fun b ⟨i, c, e, z⟩ => by
      obtain ⟨d, v, rfl, _⟩ := vals_get all e
      exact z
    refine ⟨⟨O, H, fun _ => False⟩, _, endsD false 0 q, ⟨?_, trk, fun i c e => ?_, fun i c b e z => ?_, fun i j c c' b e e' z z' => ?_, fun b o e _ => e⟩, t0, ?_⟩
    · rw [List.length_append, List.length_map, List.length_replicate]
      unfold L2.start
      rw [List.length_append, List.length_map, List.length_replicate, hl, dl]
    · obtain ⟨d, v, rfl, h1, h2, _⟩ := vals_get all e
      exact ⟨v, start_get h1, h2.mono (Adv.sub fun b z => z.elim id fun z => (nown b z).elim)⟩
    · exact (nown b ⟨i, c, e, z⟩).elim
    · exact (nown b ⟨i, c, e, z⟩).elim
    · refine ⟨fun ρ' σ' H' z ad R' => ?_, fun d ρ' σ' v H' z ad R' is => ?_, fun _ _ _ z => z.elim, fun _ _ _ z => z.elim⟩
      · exact hQ _ _ _ _ z (fun b o e => R'.keep b o e id) .non
      · exact hQ _ _ _ _ z (fun b o e => R'.keep b o e id) (is.mono (Adv.sub fun b z => .inl z))
  | true =>
    rw [if_pos rfl] at h
    obtain ⟨a, ws, d0, es, rfl, rfl, oa, top, all, hQ⟩ := h
    have dl : (d0 :: es).length = n := by rw [← hl, List.length_cons, List.length_cons, all.length]
    have t0 := hF (d0 :: es) q a dl hq
    have e0 : startD true a N.length (d0 :: es) = some (Cell.own a d0) :: (es.map (fun d => some (Cell.val d)) ++ List.replicate (N.length - (d0 :: es).length) none) := rfl
    rw [e0] at t0
    have cell : ∀ (i : Nat) (c : Cell), (some (Cell.own a d0) :: (es.map (fun d => some (Cell.val d)) ++ List.replicate (N.length - (d0 :: es).length) none))[i]? = some (some c) → (i = 0 ∧ c = .own a d0) ∨ ∃ d v, c = .val d ∧ (V.ref a :: ws)[i]? = some v ∧ Is O H v d := fun i c e => by
      cases i with
      | zero => cases e; exact .inl ⟨rfl, rfl⟩
      | succ i =>
        obtain ⟨d, v, h1, h2, h3, _⟩ := vals_get all (show _ = some (some c) from e)
        exact .inr ⟨d, v, h1, h2, h3⟩
    have ow : ∀ b, OW ⟨fun b => O b ∧ b ≠ a, H, (· = a)⟩ (some (Cell.own a d0) :: (es.map (fun d => some (Cell.val d)) ++ List.replicate (N.length - (d0 :: es).length) none)) b → O b := fun b z => by
      rcases z with z | ⟨i, c, e, z⟩
      · exact z.1
      · rcases cell i c e with ⟨_, rfl⟩ | ⟨d, v, rfl, _⟩
        · cases (show b = a from z); exact oa
        · exact z.elim
    have mo : Adv O (OW ⟨fun b => O b ∧ b ≠ a, H, (· = a)⟩ (some (Cell.own a d0) :: (es.map (fun d => some (Cell.val d)) ++ List.replicate (N.length - (d0 :: es).length) none))) H H := Adv.sub ow
    refine ⟨⟨fun b => O b ∧ b ≠ a, H, (· = a)⟩, _, endsD true a q, ⟨?_, fun b z => trk b z.1, fun i c e => ?_, fun i c b e z => ?_, fun i j c c' b e e' z z' => ?_, fun b o e _ => e⟩, t0, ?_⟩
    · rw [List.length_cons, List.length_append, List.length_map, List.length_replicate]
      unfold L2.start
      rw [List.length_append, List.length_map, List.length_replicate, hl]
      have := dl
      rw [List.length_cons] at this ⊢
      omega
    · rcases cell i c e with ⟨rfl, rfl⟩ | ⟨d, v, rfl, h1, h2⟩
      · exact ⟨.ref a, start_get rfl, rfl, top.mono mo rfl⟩
      · exact ⟨v, start_get h1, h2.mono mo⟩
    · rcases cell i c e with ⟨rfl, rfl⟩ | ⟨d, v, rfl, h1, h2⟩
      · cases (show b = a from z)
        exact ⟨trk a oa, fun z => z.2 rfl, .inl rfl⟩
      · exact z.elim
    · rcases cell i c e with ⟨rfl, rfl⟩ | ⟨d, v, rfl, h1, h2⟩
      · rcases cell j c' e' with ⟨rfl, rfl⟩ | ⟨d, v, rfl, h1, h2⟩
        · rfl
        · exact z'.elim
      · exact z.elim
    · have fin : ∀ {d e : PyData} {ρ' : DEnv} {σ' : L2.St} {v : V} {H' : Hp}, ρ'[0]? = some (some (.own a e)) → q d e → Rep ⟨fun b => O b ∧ b ≠ a, H, (· = a)⟩ ρ' σ' H' → Is (OW ⟨fun b => O b ∧ b ≠ a, H, (· = a)⟩ ρ') H' v d → Q v H' := by
        intro d e ρ' σ' v H' e1 hq R' is
        obtain ⟨g1, g2, g3, g4⟩ := R'.own 0 a e e1
        have m : Adv (OW ⟨fun b => O b ∧ b ≠ a, H, (· = a)⟩ ρ') O H' H' := Adv.sub fun b z => by
          by_cases h : b = a
          · subst h; exact .inr ⟨0, _, e1, rfl⟩
          · exact .inl ⟨z, h⟩
        exact hQ _ _ _ _ hq (fun b o e n => R'.keep b o e n) (g3.mono m rfl) (is.mono m)
      refine ⟨fun ρ' σ' H' z ad R' => ?_, fun d ρ' σ' v H' z ad R' is => ?_, fun _ _ _ z => z.elim, fun _ _ _ z => z.elim⟩
      · obtain ⟨e, h1, h2⟩ := z
        exact fin h1 h2 R' .non
      · obtain ⟨e, h1, h2⟩ := z
        exact fin h1 h2 R' is
theorem okD {N ps : List Str} {k n : Nat} {m : Bool} {F : DF} {t : DTS} (Fn : FunD K x qual params body scope [] [] f fd) (S : FnScope N ps scope) (hn : ps.length = n)
    (hb : ∀ (cdv : Value) (A : Around) (outer : List Env) (s : Shared) (H : Hp) (E : XK), Room k (A.deeper (envOfC qual scope s.heap.objs.size f cdv)) → DSs (cxOf CX0 P w K mg base N qual scope f cdv A outer s H E).nox body t)
    (hF : ∀ ds q a, ds.length = n → F ds q → t (endsD m a q) (startD m a N.length ds)) : FnOk P w K mg base CX0 (k + 1) f fd ps (spD m n F) := by
  exact Fn.ok S (fun vs H Q E h => h.1.trans hn.symm) fun cdv A outer s H vs Q E hr h => ⟨upS t, PSs.nox (hb cdv A outer s H E hr), spD_up S hn hF h⟩
end
end DL
namespace DL
open PySem PySem.Spec PyProof.Rows L2

/-! ### several names at once, new containers among the values -/
inductive FV where
  | vl (d : PyData)
  | fr (d : PyData)
  | gd (dss : List (List PyData))
abbrev DTAF := DEnv → (List FV → DEnv → Prop) → Prop
inductive FAll (O : Addr → Prop) (H : Hp) : List Addr → List V → List FV → Prop
  | nil : FAll O H [] [] []
  | vl {ps : List Addr} {v : V} {vs : List V} {d : PyData} {fs : List FV} : Is O H v d → FAll O H ps vs fs → FAll O H ps (v :: vs) (.vl d :: fs)
  | fr {p : Addr} {ps : List Addr} {vs : List V} {d : PyData} {fs : List FV} : Top O H p d → FAll O H ps vs fs → FAll O H (p :: ps) (.ref p :: vs) (.fr d :: fs)
  | gd {a : Addr} {as ps : List Addr} {vs : List V} {dss : List (List PyData)} {fs : List FV} : Grid H a as dss → FAll O H ps vs fs → FAll O H ((a :: as) ++ ps) (.ref a :: vs) (.gd dss :: fs)
abbrev Bs.these (B : Bs) (ps : List Addr) : Bs := B.more (· ∈ ps)
theorem FAll.mono {O O' : Addr → Prop} {H : Hp} {ps : List Addr} {vs : List V} {fs : List FV} (m : Adv O O' H H) (h : FAll O H ps vs fs) : FAll O' H ps vs fs := by
  induction h with
  | nil => exact .nil
  | vl i _ ih => exact .vl (i.mono m) ih
  | fr t _ ih => exact .fr (t.mono m rfl) ih
  | gd t _ ih => exact .gd t ih
def upAF (t : DTAF) : TA := fun σ H Q => ∃ B ρ q, Rep B ρ σ H ∧ t ρ q ∧ ∀ fs ρ' vs ps H', q fs ρ' → ps.Nodup → (∀ p ∈ ps, ¬ B.O p ∧ (B.mu p ∨ B.H0 p = none)) → Adv (OW B ρ) (OW (B.these ps) ρ') H H' → Rep (B.these ps) ρ' σ H' → FAll (OW (B.these ps) ρ') H' ps vs fs → Q vs H'
abbrev DAF (X : Cx) (es : List Expr) (t : DTAF) : Prop := PA X es (upAF t)
theorem Bs.these_nil (B : Bs) : B.these [] = B := by
  cases B
  simp [Bs.more]
theorem Bs.these_cons (B : Bs) (p : Addr) (ps : List Addr) : (B.plus p).these ps = B.these (p :: ps) := by
  cases B
  simp only [Bs.more, Bs.mk.injEq, and_true, true_and]
  funext b
  simp [or_assoc]
theorem Bs.these_cons' (B : Bs) (p : Addr) (ps : List Addr) : (B.these ps).plus p = B.these (p :: ps) := by
  cases B
  simp only [Bs.more, Bs.mk.injEq, and_true, true_and]
  funext b
  simp only [List.mem_cons, eq_iff_iff]
  constructor
  · rintro ((h | h) | h)
    · exact .inl h
    · exact .inr (.inr h)
    · exact .inr (.inl h)
  · rintro (h | h | h)
    · exact .inl (.inl h)
    · exact .inr h
    · exact .inl (.inr h)
theorem Bs.these_app (B : Bs) (ps qs : List Addr) : (B.these ps).these qs = B.these (ps ++ qs) := by
  cases B
  simp only [Bs.more, Bs.mk.injEq, and_true, true_and]
  funext b
  simp [or_assoc]
theorem Bs.these_app' (B : Bs) (ps qs : List Addr) : (B.these ps).these qs = B.these (qs ++ ps) := by
  cases B
  simp only [Bs.more, Bs.mk.injEq, and_true, true_and]
  funext b
  simp only [List.mem_append, eq_iff_iff, or_assoc]
  constructor <;> rintro (h | h | h) <;> simp [h]
section
variable {X : Cx} {a b c e : Expr} {es : List Expr} {ta tb tc : DT} {t : DTAF} {tf : DTF} {pos : Pos} {x y z : Str}
def afNil : DTAF := fun ρ q => q [] ρ
def afV (ta : DT) (tr : DTAF) : DTAF := fun ρ q => ta ρ fun o ρ1 => o.tk ρ1 fun d ρ2 => tr ρ2 fun fs ρ3 => q (.vl d :: fs) ρ3
def afF (tf : DTF) (tr : DTAF) : DTAF := fun ρ q => tf ρ fun d ρ1 => tr ρ1 fun fs ρ2 => q (.fr d :: fs) ρ2
theorem daf_nil : DAF X [] afNil := PA.imp pa_nil fun σ H Q ⟨B, ρ, q, R, t, k⟩ => k _ _ _ [] _ t .nil (fun _ h => by cases h) (by rw [B.these_nil]; exact .refl) (by rw [B.these_nil]; exact R) .nil
theorem daf_v (ha : DO X e ta) (hr : DAF X es t) (hs : starEach (e :: es) X.env = (false, eval e X.env) :: starEach es X.env := by rfl) : DAF X (e :: es) (afV ta t) := PA.imp (pa_cons ha hr hs) fun σ H Q ⟨B, ρ, q, R, t, k⟩ => by
  refine ⟨B, ρ, _, R, t, fun o ρ1 v1 H1 t1 m1 R1 i1 => ?_⟩
  obtain ⟨d, ρ2, h2, is, R2, m2⟩ := i1.tk R1 t1
  refine ⟨B, ρ2, _, R2, h2, fun fs ρ3 vs ps H3 t3 nd hp m3 R3 all => ?_⟩
  exact k _ _ _ _ _ t3 nd hp ((m1.trans m2).trans m3) R3 (.vl (is.mono m3) all)
theorem daf_f (ha : DFr X e tf) (hr : DAF X es t) (hs : starEach (e :: es) X.env = (false, eval e X.env) :: starEach es X.env := by rfl) : DAF X (e :: es) (afF tf t) := PA.imp (pa_cons ha hr hs) fun σ H Q ⟨B, ρ, q, R, t, k⟩ => by
  refine ⟨B, ρ, _, R, t, fun p d ρ1 H1 t1 n1 n2 m1 R1 tp => ?_⟩
  refine ⟨(B.plus p).re ρ1 H1, ρ1, _, R1.re, t1, fun fs ρ2 vs ps H2 t2 nd hp m2 R2 all => ?_⟩
  have np : ¬ owns ρ1 p := fun ⟨i, c, h, z⟩ => (R1.adr i c p h z).2.1 (.inr rfl)
  obtain ⟨u, hu, hh⟩ := id tp
  have ep : H2 p = H1 p := (R2.keep p u hu np).trans hu.symm
  have R2' : Rep (B.these (p :: ps)) ρ2 σ H2 := by
    rw [← B.these_cons]
    exact R1.unre R2
  have m2' : Adv (OW (B.plus p) ρ1) (OW (B.these (p :: ps)) ρ2) H1 H2 := by
    rw [← B.these_cons]
    exact m2
  have all' : FAll (OW (B.these (p :: ps)) ρ2) H2 ps vs fs := by
    rw [← B.these_cons]
    exact all
  refine k _ _ _ _ _ t2 (List.nodup_cons.mpr ⟨fun z => (hp p z).1 (.inr rfl), nd⟩) (fun q hq => ?_) (m1.trans m2') R2' (.fr (tp.mono m2' ep) all')
  rcases List.mem_cons.mp hq with z | z
  · rw [z]; exact ⟨n1, n2⟩
  · obtain ⟨h1, h2⟩ := hp q z
    exact ⟨fun y => h1 (.inl y), R1.unre_mu h2⟩
/-- a name is given it -/
def FV.put (i : Nat) (f : FV) (ρ : DEnv) (k : DEnv → Prop) : Prop := match f with
  | .vl d => k (ρ.set i (some (.val d)))
  | .fr d => ∀ p, k (ρ.set i (some (.own p d)))
  | .gd dss => ∀ a as, k (ρ.set i (some (.grid a as dss)))
theorem FAll.put {B : Bs} {ρ : DEnv} {σ : L2.St} {H : Hp} {ps : List Addr} {v : V} {vs : List V} {f : FV} {fs : List FV} {i : Nat} {k : DEnv → Prop} (R : Rep (B.these ps) ρ σ H) (nd : ps.Nodup) (hp : ∀ p ∈ ps, ¬ B.O p ∧ (B.mu p ∨ B.H0 p = none))
    (all : FAll (OW (B.these ps) ρ) H ps (v :: vs) (f :: fs)) (h : f.put i ρ k) : ∃ ps' ρ', k ρ' ∧ Rep (B.these ps') ρ' (σ.set i (some v)) H ∧ Adv (OW (B.these ps) ρ) (OW (B.these ps') ρ') H H ∧ ps'.Nodup ∧ (∀ p ∈ ps', ¬ B.O p ∧ (B.mu p ∨ B.H0 p = none)) ∧ FAll (OW (B.these ps') ρ') H ps' vs fs := by
  cases all with
  | vl is all =>
    obtain ⟨R2, m⟩ := R.setVal (i := i) is
    exact ⟨ps, _, h, R2, m, nd, hp, all.mono m⟩
  | @fr p ps' _ d _ top all =>
    have h' := h p
    obtain ⟨n1, nd'⟩ := List.nodup_cons.mp nd
    rw [← B.these_cons'] at R top all ⊢
    obtain ⟨R2, m⟩ := R.adopt (i := i) top (fun z => z.elim (hp p (List.mem_cons_self ..)).1 n1) (hp p (List.mem_cons_self ..)).2
    exact ⟨ps', _, h', R2, m, nd', fun q hq => hp q (List.mem_cons_of_mem _ hq), all.mono m⟩
  | @gd a as ps' _ dss _ g all =>
    have h' := h a as
    have nd2 := List.nodup_append.mp nd
    rw [← B.these_app'] at R all ⊢
    obtain ⟨R2, m⟩ := Rep.adoptC (P := (· ∈ a :: as)) R (i := i) (v := .ref a) (c := .grid a as dss) (fun b z => List.mem_cons.mpr z) ⟨rfl, g⟩ fun b z => by
      have hb := hp b (List.mem_append_left _ (List.mem_cons.mpr z))
      exact ⟨fun y => y.elim hb.1 fun y => nd2.2.2 b (List.mem_cons.mpr z) b y rfl, hb.2⟩
    exact ⟨ps', _, h', R2, m, nd2.2.1, fun q hq => hp q (List.mem_append_right _ hq), all.mono m⟩
def sPar (i j : Nat) (t : DTAF) : DTS := fun E ρ => t ρ fun fs ρ1 => match fs with
  | [f, g] => f.put i ρ1 fun ρ2 => g.put j ρ2 E.nx
  | _ => False
def sPar3 (i j l : Nat) (t : DTAF) : DTS := fun E ρ => t ρ fun fs ρ1 => match fs with
  | [f, g, h] => f.put i ρ1 fun ρ2 => g.put j ρ2 fun ρ3 => h.put l ρ3 E.nx
  | _ => False
theorem Rep.these_nil {B : Bs} {ρ : DEnv} {σ : L2.St} {H : Hp} {ps : List Addr} (R : Rep (B.these ps) ρ σ H) (h : ps = []) : Rep B ρ σ H := by
  subst h
  rw [B.these_nil] at R
  exact R
theorem ds_par {i j : Nat} {px py pt : Pos} {kt k2 pt2} (hc : X.calm = true) (hN : X.N.Nodup) (hi : X.N[i]? = some x) (hj : X.N[j]? = some y) (hij : i ≠ j)
    (hx : X.env.scope.names.lookup x = some .local) (hy : X.env.scope.names.lookup y = some .local) (ha : DAF X [a, b] t)
    (hw : swappedStores [.Tuple [.Name x px, .Name y py] kt pt] (.Tuple [a, b] k2 pt2) X.env = pure (some [x, y]))
    (hs : swapsWithSole [.Tuple [.Name x px, .Name y py] kt pt] (.Tuple [a, b] k2 pt2) pos.line X.env = pure false := by rfl) :
    DS X (.Assign [.Tuple [.Name x px, .Name y py] kt pt] (.Tuple [a, b] k2 pt2) pos) (sPar i j t) := PS.imp (ps_par hc hN hi hj hij hx hy ha hw hs) fun D σ H ⟨B, ρ, E, R, t, k⟩ => by
  refine ⟨B, ρ, _, R, t, fun fs ρ1 vs ps H1 t1 nd hp m1 R1 all => ?_⟩
  split at t1
  · rename_i f g
    obtain ⟨v, vs1, rfl⟩ : ∃ v r, vs = v :: r := by cases all <;> exact ⟨_, _, rfl⟩
    obtain ⟨ps2, ρ2, t2, R2, m2, nd2, hp2, all2⟩ := FAll.put R1 nd hp all t1
    obtain ⟨w, vs2, rfl⟩ : ∃ v r, vs1 = v :: r := by cases all2 <;> exact ⟨_, _, rfl⟩
    obtain ⟨ps3, ρ3, t3, R3, m3, nd3, hp3, all3⟩ := FAll.put R2 nd2 hp2 all2 t2
    cases all3
    rw [B.these_nil] at R3 m3
    exact ⟨v, w, rfl, k.nx _ _ _ t3 ((m1.trans m2).trans m3) R3⟩
  · exact t1.elim
theorem ds_par3 {i j l : Nat} {px py pz pt : Pos} {kt k2 pt2} (hc : X.calm = true) (hN : X.N.Nodup) (hi : X.N[i]? = some x) (hj : X.N[j]? = some y) (hl : X.N[l]? = some z) (hij : i ≠ j) (hil : i ≠ l) (hjl : j ≠ l)
    (hx : X.env.scope.names.lookup x = some .local) (hy : X.env.scope.names.lookup y = some .local) (hz : X.env.scope.names.lookup z = some .local) (ha : DAF X [a, b, c] t)
    (hw : swappedStores [.Tuple [.Name x px, .Name y py, .Name z pz] kt pt] (.Tuple [a, b, c] k2 pt2) X.env = pure (some [x, y, z]))
    (hs : swapsWithSole [.Tuple [.Name x px, .Name y py, .Name z pz] kt pt] (.Tuple [a, b, c] k2 pt2) pos.line X.env = pure false := by rfl) :
    DS X (.Assign [.Tuple [.Name x px, .Name y py, .Name z pz] kt pt] (.Tuple [a, b, c] k2 pt2) pos) (sPar3 i j l t) := PS.imp (ps_par3 hc hN hi hj hl hij hil hjl hx hy hz ha hw hs) fun D σ H ⟨B, ρ, E, R, t, k⟩ => by
  refine ⟨B, ρ, _, R, t, fun fs ρ1 vs ps H1 t1 nd hp m1 R1 all => ?_⟩
  split at t1
  · rename_i f g h
    obtain ⟨v, vs1, rfl⟩ : ∃ v r, vs = v :: r := by cases all <;> exact ⟨_, _, rfl⟩
    obtain ⟨ps2, ρ2, t2, R2, m2, nd2, hp2, all2⟩ := FAll.put R1 nd hp all t1
    obtain ⟨w, vs2, rfl⟩ : ∃ v r, vs1 = v :: r := by cases all2 <;> exact ⟨_, _, rfl⟩
    obtain ⟨ps3, ρ3, t3, R3, m3, nd3, hp3, all3⟩ := FAll.put R2 nd2 hp2 all2 t2
    obtain ⟨u, vs3, rfl⟩ : ∃ v r, vs2 = v :: r := by cases all3 <;> exact ⟨_, _, rfl⟩
    obtain ⟨ps4, ρ4, t4, R4, m4, nd4, hp4, all4⟩ := FAll.put R3 nd3 hp3 all3 t3
    cases all4
    rw [B.these_nil] at R4 m4
    exact ⟨v, w, u, rfl, k.nx _ _ _ t4 (((m1.trans m2).trans m3).trans m4) R4⟩
  · exact t1.elim

/-! ### dicts -/
def dLook (es : List (PyData × PyData)) (k : PyData → Bool) : Option PyData := (es.find? fun e => k e.1).map (·.2)
/-- a key that may stand in a dict of ints and texts -/
def keyB : PyData → PyData → Bool
  | .int i, .int j => i == j
  | .str x, .str y => decide (x = y)
  | _, _ => false
def isKey : PyData → Bool
  | .int _ => true
  | .str _ => true
  | _ => false
theorem key_of_is {O : Addr → Prop} {H : Hp} {v : V} {d : PyData} (h : RdB O H v d) (k : isKey d = true) : ∃ q, v = kV q ∧ d = kD q := by
  cases d with
  | int i => exact ⟨.inl i, h.int, rfl⟩
  | str x => exact ⟨.inr x, h.str, rfl⟩
  | _ => cases k
theorem keyB_kD (a b : Key) : keyB (kD a) (kD b) = decide (a = b) := by
  cases a with
  | inl i =>
    cases b with
    | inl j =>
      show (i == j) = decide ((Sum.inl i : Key) = Sum.inl j)
      exact (key_ll i j).symm
    | inr y => exact (key_lr i y).symm
  | inr x =>
    cases b with
    | inl j => exact (key_rl x j).symm
    | inr y =>
      show decide (x = y) = decide ((Sum.inr x : Key) = Sum.inr y)
      exact (key_rr x y).symm
/-- what stands under a key -/
def dGetD (es : List (PyData × PyData)) (k : PyData) : Option PyData := dLook es fun e => keyB e k
def dPutD (es : List (PyData × PyData)) (k d : PyData) : List (PyData × PyData) :=
  if (es.any fun e => keyB e.1 k) = true then es.map (fun e => if keyB e.1 k = true then (e.1, d) else e) else es ++ [(k, d)]
theorem IsK.look {O : Addr → Prop} {H : Hp} {kvs : List (Key × V)} {es : List (PyData × PyData)} (h : IsK O H kvs es) (q : Key) :
    (∃ v d, valV kvs q = some v ∧ dGetD es (kD q) = some d ∧ Is O H v d) ∨ (valV kvs q = none ∧ dGetD es (kD q) = none) := by
  induction kvs generalizing es with
  | nil => cases h; exact .inr ⟨rfl, rfl⟩
  | cons p r ih =>
    cases h with
    | @consK k v _ d ds i t =>
      by_cases e : k = q
      · refine .inl ⟨v, d, valV_pos (p := (k, v)) e, ?_, i⟩
        show ((List.find? (fun e => keyB e.1 (kD q)) ((kD k, d) :: ds)).map (·.2)) = _
        rw [List.find?_cons_of_pos (by show keyB (kD k) (kD q) = true; rw [keyB_kD]; exact decide_eq_true e)]
        rfl
      · have e1 : valV ((k, v) :: r) q = valV r q := valV_neg (p := (k, v)) e
        have e2 : dGetD ((kD k, d) :: ds) (kD q) = dGetD ds (kD q) := by
          show ((List.find? (fun e => keyB e.1 (kD q)) ((kD k, d) :: ds)).map (·.2)) = _
          rw [List.find?_cons_of_neg (by show ¬ keyB (kD k) (kD q) = true; rw [keyB_kD]; simpa using e)]
          rfl
        rw [e1, e2]
        exact ih t
theorem IsK.any {O : Addr → Prop} {H : Hp} {q : Key} : ∀ {kvs : List (Key × V)} {es : List (PyData × PyData)}, IsK O H kvs es → (kvs.any fun kv => decide (kv.1 = q)) = es.any fun e => keyB e.1 (kD q)
  | _, _, .nilK => rfl
  | _, _, .consK i t => by
    rw [List.any_cons, List.any_cons, keyB_kD, IsK.any t]
theorem IsK.map {O : Addr → Prop} {H : Hp} {q : Key} {v : V} {d : PyData} (h : Is O H v d) : ∀ {kvs : List (Key × V)} {es : List (PyData × PyData)}, IsK O H kvs es →
    IsK O H (kvs.map fun kv => if kv.1 = q then (kv.1, v) else kv) (es.map fun e => if keyB e.1 (kD q) = true then (e.1, d) else e)
  | _, _, .nilK => .nilK
  | _, _, .consK (k := k) i t => by
    rw [List.map_cons, List.map_cons]
    by_cases e : k = q
    · rw [if_pos e, if_pos (by show keyB (kD k) (kD q) = true; rw [keyB_kD]; exact decide_eq_true e)]
      exact .consK h (IsK.map h t)
    · rw [if_neg e, if_neg (by show ¬ keyB (kD k) (kD q) = true; rw [keyB_kD]; simpa using e)]
      exact .consK i (IsK.map h t)
theorem IsK.append {O : Addr → Prop} {H : Hp} : ∀ {xs ys : List (Key × V)} {ds es : List (PyData × PyData)}, IsK O H xs ds → IsK O H ys es → IsK O H (xs ++ ys) (ds ++ es)
  | _, _, _, _, .nilK, s => s
  | _, _, _, _, .consK r t, s => .consK r (IsK.append t s)
theorem IsK.put {O : Addr → Prop} {H : Hp} {kvs : List (Key × V)} {es : List (PyData × PyData)} (h : IsK O H kvs es) (q : Key) {v : V} {d : PyData} (i : Is O H v d) : IsK O H (putK kvs q v) (dPutD es (kD q) d) := by
  unfold putK dPutD
  rw [h.any (q := q)]
  split
  · exact h.map i
  · exact h.append (.consK i .nilK)
theorem IsK.length {O : Addr → Prop} {H : Hp} : ∀ {kvs : List (Key × V)} {es : List (PyData × PyData)}, IsK O H kvs es → kvs.length = es.length
  | _, _, .nilK => rfl
  | _, _, .consK _ t => congrArg Nat.succ (IsK.length t)
end
end DL
namespace DL
open PySem PySem.Spec PyProof.Rows L2
section
variable {O : Addr → Prop} {H : Hp} {v : V}
/-- a dict of ints and texts: not one whose keys are tuples -/
def kDict : List (PyData × PyData) → Bool
  | (.none, _) :: _ => false
  | _ => true
theorem no_none {k : Key} : kD k ≠ .none := by cases k <;> intro e <;> cases e
theorem IsK.kd {kvs : List (Key × V)} {es : List (PyData × PyData)} (h : IsK O H kvs es) : kDict es = true := by
  cases h with
  | nilK => rfl
  | consK i t =>
    rename_i k _ _ _ _
    cases k <;> rfl
theorem RdB.dic {es : List (PyData × PyData)} (h : RdB O H v (.dict es)) (kd : kDict es = true) : ∃ a kvs, v = .ref a ∧ Rd H a (.dK kvs) ∧ IsK O H kvs es := by
  rcases h with h | ⟨a, rfl, u, e, h⟩
  · cases h with
    | dK n r t => exact ⟨_, _, rfl, r, t⟩
    | dT n r t => cases kd
  · cases h with
    | dK t => exact ⟨_, _, rfl, .inl e, t⟩
    | dT t => cases kd
theorem Top.dic {a : Addr} {es : List (PyData × PyData)} (h : Top O H a (.dict es)) (kd : kDict es = true) : ∃ kvs, H a = some (.dK kvs) ∧ IsK O H kvs es := by
  obtain ⟨u, e, h⟩ := h
  cases h with
  | dK t => exact ⟨_, e, t⟩
  | dT t => cases kd
end
section
variable {X : Cx} {a b c e i : Expr} {es : List Expr} {ta tb tc tk tv : DT} {t : DTA} {pos : Pos} {x : Str}
def gDGet : D2 := fun d e q => match d with
  | .dict es => kDict es = true ∧ isKey e = true ∧ ∃ r, dGetD es e = some r ∧ q r
  | _ => False
theorem dget_of {O : Addr → Prop} {H : Hp} {y : V} {a : Addr} {kvs : List (Key × V)} {es : List (PyData × PyData)} {e : PyData} (r : Rd H a (.dK kvs)) (t : IsK O H kvs es) (hy : RdB O H y e) (ke : isKey e = true) :
    (∃ v d, DGet H a y (some v) ∧ dGetD es e = some d ∧ Is O H v d) ∨ (DGet H a y none ∧ dGetD es e = none) := by
  obtain ⟨k, rfl, rfl⟩ := key_of_is hy ke
  rcases t.look k with ⟨v, d, h1, h2, h3⟩ | ⟨h1, h2⟩
  · exact .inl ⟨v, d, .inl ⟨kvs, k, r, rfl, h1.symm⟩, h2, h3⟩
  · exact .inr ⟨.inl ⟨kvs, k, r, rfl, h1.symm⟩, h2⟩
theorem fit_dget : Fit2 (fun x y H Q => ∃ a v, x = .ref a ∧ DGet H a y (some v) ∧ Q v H) gDGet := fun O H x y d e q Q _ hx hy h k => by
  unfold gDGet at h
  split at h
  · obtain ⟨kd, ke, r, h1, h2⟩ := h
    obtain ⟨a, kvs, rfl, r1, t1⟩ := hx.dic kd
    rcases dget_of r1 t1 hy ke with ⟨v, d, g1, g2, g3⟩ | ⟨g1, g2⟩
    · rw [h1] at g2
      cases g2
      exact ⟨a, v, rfl, g1, k _ _ _ h2 (Same.refl _) g3⟩
    · rw [h1] at g2; cases g2
  · exact h.elim
theorem do_dget (hu : X.A.units + 1 < cLine) (ha : DO X a ta) (hb : DO X b tb) (hs : NoSl b) : DO X (.Subscript a b pos) (d2 gDGet ta tb) := PE.imp (pe_dget hu ha hb hs) fun _ _ _ h => up2 fit_dget h
def gDIn (f : Bool → Bool) : D2 := fun e d q => match d with
  | .dict es => kDict es = true ∧ isKey e = true ∧ q (.bool (f (dGetD es e).isSome))
  | _ => False
theorem fit_din {f : Bool → Bool} : Fit2 (fun y x H Q => ∃ a o, x = .ref a ∧ DGet H a y o ∧ Q (.bl (f o.isSome)) H) (gDIn f) := fun O H y x e d q Q _ hy hx h k => by
  unfold gDIn at h
  split at h
  · obtain ⟨kd, ke, h2⟩ := h
    obtain ⟨a, kvs, rfl, r1, t1⟩ := hx.dic kd
    rcases dget_of r1 t1 hy ke with ⟨v, d, g1, g2, g3⟩ | ⟨g1, g2⟩
    · rw [g2] at h2
      exact ⟨a, some v, rfl, g1, k _ _ _ h2 (Same.refl _) (.bl _)⟩
    · rw [g2] at h2
      exact ⟨a, none, rfl, g1, k _ _ _ h2 (Same.refl _) (.bl _)⟩
  · exact h.elim
theorem do_din (hu : X.A.units + 1 < cLine) (ha : DO X a ta) (hb : DO X b tb) (hm : behindInMarks .In b = false := by rfl) : DO X (.Compare a [.In] [b] pos) (d2 (gDIn id) ta tb) := PE.imp (pe_cmp (pc_din hu ha hb) hm) fun _ _ _ h => up2 fit_din h
theorem do_dnotin (hu : X.A.units + 1 < cLine) (ha : DO X a ta) (hb : DO X b tb) (hm : behindInMarks .NotIn b = false := by rfl) : DO X (.Compare a [.NotIn] [b] pos) (d2 (gDIn (!·)) ta tb) := PE.imp (pe_cmp (pc_dnotin hu ha hb) hm) fun _ _ _ h => up2 fit_din h
theorem dp_din (hu : X.A.units + 1 < cLine) (ha : DO X a ta) (hb : DO X b tb) (hm : behindInMarks .In b = false := by rfl) : DP X (.Compare a [.In] [b] pos) (dB (d2 (gDIn id) ta tb)) := PT.imp (pt_cmp (pc_din hu ha hb) hm) fun _ _ _ h => up2 fit_din (upB h)
theorem dp_dnotin (hu : X.A.units + 1 < cLine) (ha : DO X a ta) (hb : DO X b tb) (hm : behindInMarks .NotIn b = false := by rfl) : DP X (.Compare a [.NotIn] [b] pos) (dB (d2 (gDIn (!·)) ta tb)) := PT.imp (pt_cmp (pc_dnotin hu ha hb) hm) fun _ _ _ h => up2 fit_din (upB h)
/-- d[k] = v -/
def sDPut (i : Nat) (tk tv : DT) : DTS := fun E ρ => tv ρ fun o ρ1 => o.tk ρ1 fun d ρ2 => match ρ2[i]? with
  | some (some (.own _ _)) => tk ρ2 fun ok ρ3 => ok.rd ρ3 fun e => match ρ3[i]? with
    | some (some (.own a (.dict es))) => kDict es = true ∧ isKey e = true ∧ es.length < 16777216 ∧ E.nx (ρ3.set i (some (.own a (.dict (dPutD es e d)))))
    | _ => False
  | _ => False
theorem ds_dput {j : Nat} {p pos' : Pos} (hu : X.A.units + 1 < cLine) (hx : PE X (.Name x p) (tVar j)) (hi : DO X i tk) (hv : DO X e tv) (hs : swapsWith e (some (.Subscript (.Name x p) i pos')) pos.line X.env = pure false := by rfl) :
    DS X (.Assign [.Subscript (.Name x p) i pos'] e pos) (sDPut j tk tv) := PS.imp (ps_dput hu hx hi hv hs) fun D σ H ⟨B, ρ, E, R, t, k⟩ => by
  refine ⟨B, ρ, _, R, t, fun o ρ1 v H1 t1 m1 R1 i1 => ?_⟩
  obtain ⟨d, ρ2, h2, is, R2, m2⟩ := i1.tk R1 t1
  split at h2
  · rename_i a0 d0 h0
    obtain ⟨g1, g2, g3, g4⟩ := R2.own j a0 _ h0
    refine ⟨_, g1, B, ρ2, _, R2, h2, fun ok ρ3 w H3 t3 m3 R3 i3 => ?_⟩
    obtain ⟨ek, h4, r4⟩ := i3.rd R3 t3
    split at h4
    · rename_i a1 es hc
      obtain ⟨kd, ke, hl, nx⟩ := h4
      obtain ⟨f1, f2, f3, f4⟩ := R3.own j a1 _ hc
      rw [g1] at f1
      cases f1
      obtain ⟨kvs, hk, all⟩ := f3.dic kd
      obtain ⟨q, rfl, rfl⟩ := key_of_is r4 ke
      obtain ⟨R4, m4⟩ := R3.write (u := .dK (putK kvs q v)) hc (.dK (all.put q (is.mono m3)))
      refine ⟨a0, _, rfl, DPut.k hk (by rw [all.length, sizeLine_eq]; exact hl), k.nx _ _ _ nx (((m1.trans m2).trans m3).trans m4) R4⟩
    · exact h4.elim
  · exact h2.elim
/-- {}, {k: v} -/
def fD0 : DTF := fun ρ q => q (.dict []) ρ
theorem dfr_d0 : DFr X (.Dict [] [] pos) fD0 := PE.imp pe_dnewK fun σ H Q ⟨B, ρ, q, R, t, k⟩ => fun p hp => by
  obtain ⟨R3, tp, m3⟩ := R.fresh hp (.dK .nilK)
  obtain ⟨e1, e2⟩ := R.entry hp
  exact k _ _ _ _ t e1 e2 m3 R3 tp
/-- one pair -/
def fD1 (tk tv : DT) : DTF := fun ρ q => tk ρ fun ok ρ1 => tv ρ1 fun ov ρ2 => ok.rd ρ2 fun e => ov.tk ρ2 fun d ρ3 => isKey e = true ∧ q (.dict [(e, d)]) ρ3
theorem dfr_d1 (hk : DO X i tk) (hv : DO X e tv) : DFr X (.Dict [some i] [e] pos) (fD1 tk tv) := PE.imp (pe_disp (pps_cons hk hv pps_nil) rfl rfl (fun z => by cases z) (by show 1 ≤ 15; decide)) fun σ H Q ⟨B, ρ, q, R, t, k⟩ => fun p hp => by
  obtain ⟨R1, tp, m1⟩ := R.fresh hp (u := .dK []) (.dK .nilK)
  obtain ⟨e1, e2⟩ := R.entry hp
  refine ⟨(B.plus p).re ρ (upd H p (.dK [])), ρ, _, R1.re, t, fun ok ρ1 v1 H1 t1 m2 R2 i1 => ⟨_, ρ1, _, R2, t1, fun ov ρ2 v2 H2 t2 m3 R3 i2 => ?_⟩⟩
  obtain ⟨ek, t3, r3⟩ := (i1.adv m3).rd R3 t2
  obtain ⟨d, ρ3, ⟨ke, t4⟩, is, R4, m4⟩ := i2.tk R3 t3
  have np : ¬ owns ρ p := fun ⟨i, c, h, z⟩ => (R1.adr i c p h z).2.1 (.inr rfl)
  have hp2 : H2 p = some (.dK []) := R4.keep p _ upd_same np
  obtain ⟨qk, rfl, rfl⟩ := key_of_is r3 ke
  have R5 : Rep (B.plus p) ρ3 σ H2 := R1.unre R4
  obtain ⟨R6, m6⟩ := R5.writeO (p := p) (u := .dK (mergeK [] [(qk, v2)])) (.inr rfl) e2 rfl
  refine ⟨hp2, [(qk, v2)], rfl, by show 1 ≤ 15; decide, ?_⟩
  have mm : Adv (OW (B.plus p) ρ) (OW (B.plus p) ρ3) (upd H p (.dK [])) H2 := (m2.trans m3).trans m4
  exact k _ _ _ _ t4 e1 e2 ((m1.trans mm).trans m6) R6 ⟨_, upd_same, .dK (.consK (Is.mono m6 is) .nilK)⟩

/-! ### enumerate, unpacking a list, powers, a sign's place -/
def iEnumD (ta : DT) : DTI := fun ρ q => ta ρ fun o ρ1 => o.tk ρ1 fun d ρ2 => match d with
  | .list ds => q ((List.range ds.length).zipWith (fun k d => .tuple [.int (k : Nat), d]) ds) ρ2
  | _ => False
theorem zw_get {ds : List PyData} {i : Nat} {f : Nat → PyData → PyData} {d : PyData} (h : ((List.range ds.length).zipWith f ds)[i]? = some d) : ∃ e, ds[i]? = some e ∧ d = f i e := by
  rw [List.getElem?_zipWith] at h
  by_cases hi : i < ds.length
  · rw [List.getElem?_range hi, List.getElem?_eq_getElem hi] at h
    cases h
    exact ⟨_, List.getElem?_eq_getElem hi, rfl⟩
  · rw [List.getElem?_eq_none (by rw [List.length_range]; omega)] at h
    cases h
theorem di_enum {p tpos : Pos} {elts : List Expr} {kk : Nat} (hg : Gl X "enumerate") (hm : X.mg "enumerate" = none) (ha : DO X e ta) (hs : starEach [e] X.env = [(false, eval e X.env)] := by rfl) (he : starEach [e] X.env = (false, eval e X.env) :: starEach [] X.env := by rfl) :
    DI X (.Tuple elts kk tpos) (.Call (.Name "enumerate" p) [e] [] pos) (iEnumD ta) := PI.imp (pi_enum hg hm (pa_cons ha pa_nil he) hs) fun σ H R' ⟨B, ρ, q, R, t, k⟩ => by
  refine ⟨B, ρ, _, R, t, fun o ρ1 v H1 t1 m1 R1 i1 => ?_⟩
  obtain ⟨d, ρ2, h2, is, R2, m2⟩ := i1.tk R1 t1
  split at h2
  · rename_i ds
    cases is with
    | @lst a1 xs _ n e1 all =>
      refine ⟨a1, xs, rfl, SqL.of e1, k _ _ _ _ h2 (m1.trans m2) R2 fun i O' H' m => ?_⟩
      have e' : H' a1 = some (.lst xs) := m.1 _ _ e1 (.inl n)
      refine ⟨fun d hd => ?_, fun hl => ⟨xs, SqL.of e', ?_⟩⟩
      · obtain ⟨de, hde, rfl⟩ := zw_get hd
        obtain ⟨w, hw, iw⟩ := all.get hde
        refine ⟨⟨xs, w, SqL.of e', hw⟩, fun x H'' ⟨T, y, ex, hT, eH, hy⟩ => ?_⟩
        subst ex eH
        have ey : y = w := Option.some.inj ((hy xs (SqL.of e')).symm.trans hw)
        subst ey
        exact ⟨same_new hT, .tup upd_same (.cons (.int _) (.cons ((iw.mono m).mono (.new hT)) .nil))⟩
      · rw [List.length_zipWith, List.length_range, Nat.min_self] at hl
        rw [all.length]
        exact Nat.le_of_eq hl.symm
  · exact h2.elim
/-- x ** n -/
def CPowW (i j : Int) : Prop := 0 ≤ j ∧ (i.natAbs.log2 + 1 : Nat) * j ≤ 134217728
abbrev gPow : D2 := gII CPowW fun i j => .int (i ^ j.toNat)
theorem op_powW : OpR X (binaryOp .Pow) (rI CPowW fun i j => .int (i ^ j.toNat)) := opI fun i j _ _ _ _ _ hc q => by
  refine pow_int hc.1 ?_ q
  have b : Builtin.Int.intBits i ≤ i.natAbs.log2 + 1 := by
    unfold Builtin.Int.intBits
    split <;> omega
  have h1 : ((Builtin.Int.intBits i : Nat) : Int) ≤ ((i.natAbs.log2 + 1 : Nat) : Int) := by omega
  have h2 : ((Builtin.Int.intBits i : Nat) : Int) * j ≤ ((i.natAbs.log2 + 1 : Nat) : Int) * j := Int.mul_le_mul_of_nonneg_right h1 hc.1
  have h3 := hc.2
  have e : (2 : Int) ^ 27 = 134217728 := by decide
  rw [e]
  omega
theorem do_pow (ha : DO X a ta) (hb : DO X b tb) : DO X (.BinOp a .Pow b pos) (d2 (gII CPowW fun i j => .int (i ^ j.toNat)) ta tb) := do_op op_powW fit_rI ha hb
/-- "LR".index(sign) -/
def gIndex : D2 := fun d e q => match d, e with
  | .str x, .str y => L x = [76, 82] ∧ ((L y = [76] ∧ q (.int 0)) ∨ (L y = [82] ∧ q (.int 1)))
  | _, _ => False
theorem occ_LR0 : Builtin.Str.occurrences ⟨#[76, 82]⟩ ⟨#[76]⟩ 0 (Str.length ⟨#[76, 82]⟩) 1 = [0] := by decide +kernel
theorem occ_LR1 : Builtin.Str.occurrences ⟨#[76, 82]⟩ ⟨#[82]⟩ 0 (Str.length ⟨#[76, 82]⟩) 1 = [1] := by decide +kernel
theorem do_index {apos : Pos} (ha : DO X a ta) (hb : DO X b tb) (hs : starEach [b] X.env = [(false, eval b X.env)] := by rfl) (hbase : attributeBase a "index" X.env (eval a X.env) = eval a X.env := by rfl) (hline : (apos.endLine == pos.line) = true := by rfl) :
    DO X (.Call (.Attribute a "index" apos) [b] [] pos) (dM1 gIndex ta tb) := PE.imp (pe_m1 F.slot_str_index F.type_str_index mt_sindex ha hb hs hbase hline) fun _ _ _ h => upM1 (fun O H x y d e q Q _ hx hy h k => by
  unfold gIndex at h
  split at h
  · rename_i x y
    obtain ⟨h1, h2⟩ := h
    have ex : x = ⟨#[76, 82]⟩ := by rw [← mk_L x, h1]; rfl
    subst ex
    rcases h2 with ⟨h2, h3⟩ | ⟨h2, h3⟩
    · exact ⟨_, ⟨#[76]⟩, 0, [], hx.str, by rw [hy.str, str_one h2], occ_LR0, k _ _ _ h3 (Same.refl _) (.int _)⟩
    · exact ⟨_, ⟨#[82]⟩, 1, [], hx.str, by rw [hy.str, str_one h2], occ_LR1, k _ _ _ h3 (Same.refl _) (.int _)⟩
  · exact h.elim) h

/-! ### dict(zip(xs, ys)) -/
/-- the pairs of a dict, the later ones win -/
def dMerge (es : List (PyData × PyData)) : List (PyData × PyData) → List (PyData × PyData)
  | [] => es
  | (k, d) :: r => dMerge (dPutD es k d) r
end
end DL
namespace DL
open PySem PySem.Spec PyProof.Rows L2

/-! ### zip over lists, tuples and texts in any mix -/
inductive ZS where
  | l (a : Addr)
  | t (a : Addr)
  | s (x : Str)
def ZS.v : ZS → V
  | .l a => .ref a
  | .t a => .ref a
  | .s x => .str x
def ZS.sq (K : PySem.W.Frag) : ZS → Hp → List V → Prop
  | .l a, H, xs => SqL K H a xs
  | .t a, H, xs => SqT K H a xs
  | .s x, _, xs => xs = x.cps.toList.map fun c => .str ⟨#[c]⟩
def ZS.st : ZS → Addr → Nat → Heap → Prop
  | .l a, it, i, h => h.IsListIter it a i
  | .t a, it, i, h => h.IsTupleIter it a i
  | .s x, it, i, h => ∃ t, h.IsStrIter it (strIterType x) x t i
def ZS.lt : ZS → Addr → Prop
  | .l a, N => a < N
  | .t a, N => a < N
  | .s _, _ => True
theorem ZS.st.obj {z : ZS} {it : Addr} {i : Nat} {h : Heap} (s : z.st it i h) : ∃ o, h.get? it = some o ∧ ∀ v, o.data ≠ .cell v := by
  cases z with
  | l a => obtain ⟨o, e, _, d⟩ := s; exact ⟨o, e, fun v q => by rw [d] at q; cases q⟩
  | t a => obtain ⟨o, e, _, d⟩ := s; exact ⟨o, e, fun v q => by rw [d] at q; cases q⟩
  | s x => obtain ⟨t, o, e, _, d⟩ := s; exact ⟨o, e, fun v q => by rw [d] at q; cases q⟩
theorem ZS.st.keep {z : ZS} {it : Addr} {i : Nat} {h h' : Heap} (s : z.st it i h) (k : ∀ o, h.get? it = some o → h'.get? it = some o) : z.st it i h' := by
  cases z with
  | l a => obtain ⟨o, e, r⟩ := s; exact ⟨o, k o e, r⟩
  | t a => obtain ⟨o, e, r⟩ := s; exact ⟨o, k o e, r⟩
  | s x => obtain ⟨t, o, e, r⟩ := s; exact ⟨t, o, k o e, r⟩
section
variable {X : Cx} {pins : List (Addr × Obj)} {σ : L2.St} {H : Hp} {s : Shared} {z : ZS} {xs : List V} {it N : Addr} {i : Nat}
theorem rel_get : ∀ {xs : List V} {us : List Value} {i : Nat} {u : Value}, Vals xs us → us[i]? = some u → ∃ x, xs[i]? = some x ∧ RelV x u
  | _, _, _, _, .nil, e => by simp at e
  | _, _, 0, _, .cons r _, e => by simp at e; subst e; exact ⟨_, rfl, r⟩
  | _, _, i + 1, u, .cons _ t, e => by
    obtain ⟨x, h1, h2⟩ := rel_get (i := i) (u := u) t (by simpa using e)
    exact ⟨x, by simpa using h1, h2⟩
theorem ZS.sq_inj {ys : List V} (I : Inv X pins σ H s) (h : z.sq X.K H xs) (h' : z.sq X.K H ys) : xs = ys := by
  cases z with
  | l a => exact I.list_inj h h'
  | t a => exact I.tuple_inj h h'
  | s x => exact h.trans h'.symm
theorem ZS.draw (I : Inv X pins σ H s) (hc : X.calm = true) (hq : z.sq X.K H xs) (st : z.st it i s.heap) (lt : z.lt N) (hit : N ≤ it) :
    ∃ fp P St, Draws X.prog X.w X.A.in1 it (it :: fp) xs.length P St ∧ St i s.heap ∧ (∀ j h, St j h → z.st it j h) ∧ (∀ b ∈ fp, b < N) ∧ ∀ j v, P j v → ∃ x, xs[j]? = some x ∧ RelV x v := by
  have hh : X.A.in1.handled = none := I.ok.hd hc
  cases z with
  | l a =>
    obtain ⟨its, rv, p, _⟩ := I.list hq
    have hl := rv.length
    have D := Draws.list (prog := X.prog) (w := X.w) hh it a (Nat.ne_of_lt (Nat.lt_of_lt_of_le lt hit)) its.toArray
    refine ⟨[a], fun j v => its.toArray[j]? = some v, fun j h => h.IsListIter it a j ∧ h.IsList a its.toArray, by rw [hl]; simpa using D, ⟨st, p.isList⟩, fun j h q => q.1, fun b hb => by rw [List.mem_singleton.mp hb]; exact lt, fun j v hv => ?_⟩
    have hv' : its[j]? = some v := by simpa using hv
    exact rel_get rv hv'
  | t a =>
    obtain ⟨its, rv, p, _⟩ := I.tuple hq
    have hl := rv.length
    have D := Draws.tuple (prog := X.prog) (w := X.w) hh it a (Nat.ne_of_lt (Nat.lt_of_lt_of_le lt hit)) its.toArray
    refine ⟨[a], fun j v => its.toArray[j]? = some v, fun j h => h.IsTupleIter it a j ∧ h.IsTuple a its.toArray, by rw [hl]; simpa using D, ⟨st, p⟩, fun j h q => q.1, fun b hb => by rw [List.mem_singleton.mp hb]; exact lt, fun j v hv => ?_⟩
    have hv' : its[j]? = some v := by simpa using hv
    exact rel_get rv hv'
  | s x =>
    obtain ⟨t, st⟩ := st
    have e : xs.length = x.cps.size := by rw [show xs = _ from hq, List.length_map, Array.length_toList]
    have D := Draws.text (prog := X.prog) (w := X.w) hh it x t
    refine ⟨[], fun j v => ∃ c u, x.cps[j]? = some c ∧ v = .str ⟨#[c]⟩ u, fun j h => h.IsStrIter it (strIterType x) x t j, by rw [e]; exact D, st, fun j h q => ⟨t, q⟩, fun b hb => by simp at hb, fun j v ⟨c, u, hc, ev⟩ => ⟨.str ⟨#[c]⟩, ?_, ⟨u, ev⟩⟩⟩
    rw [show xs = _ from hq, List.getElem?_map, Array.getElem?_toList, hc]
    rfl
theorem ZS.begins {v : Value} (I : Inv X pins σ H s) (hq : z.sq X.K H xs) (r : RelV z.v v) : ∃ o Hb, Begins v o Hb ∧ Hb s.heap ∧ (∀ h it, h.get? it = some o → z.st it 0 h) ∧ z.lt s.heap.objs.size := by
  cases z with
  | l a =>
    cases r
    obtain ⟨its, rv, p, _⟩ := I.list hq
    exact ⟨_, _, begins_list a its.toArray, p.isList, fun h it e => ⟨_, e, rfl, rfl⟩, p.lt⟩
  | t a =>
    cases r
    obtain ⟨its, rv, p, _⟩ := I.tuple hq
    obtain ⟨o, ho, _⟩ := id p
    exact ⟨_, _, begins_tuple a its.toArray, p, fun h it e => ⟨_, e, rfl, rfl⟩, Heap.lt_size ho⟩
  | s x =>
    obtain ⟨t, rfl⟩ := r
    exact ⟨_, _, begins_text x t, trivial, fun h it e => ⟨t, _, e, rfl, rfl⟩, trivial⟩
end
/-- zip of 2 -/
def Itz2s (K : PySem.W.Frag) (z1 z2 : ZS) : It :=
  ⟨fun i H => ∃ (xs1 xs2 : List V) (x1 x2 : V), z1.sq K H xs1 ∧ z2.sq K H xs2 ∧ xs1[i]? = some x1 ∧ xs2[i]? = some x2,
    fun i H v H' => ∃ (T : Addr) (x1 x2 : V), v = .ref T ∧ H T = none ∧ H' = upd H T (.tup [x1, x2]) ∧ (∀ xs, z1.sq K H xs → xs[i]? = some x1) ∧ (∀ xs, z2.sq K H xs → xs[i]? = some x2),
    fun i H => ∃ (xs1 xs2 : List V), z1.sq K H xs1 ∧ z2.sq K H xs2 ∧ i = min xs1.length xs2.length⟩
theorem turn_zip2s {P : Program} {w : World} {K : PySem.W.Frag} {elts : List Expr} {kk : Nat} {tpos : Pos} {z1 z2 : ZS} {N : Addr} (l1 : z1.lt N) (l2 : z2.lt N) :
    Turn P w K (.Tuple elts kk tpos) (Itz2s K z1 z2) [N + 4, N + 2, N + 3, N, N + 1] (N + 4) (fun i h => IsZip h (N + 4) (N + 2) (N + 3) .none ∧ IsTupOf2 h (N + 2) (.ref (N)) (.ref (N + 1)) ∧ (∃ a1 a2, IsTupOf2 h (N + 3) a1 a2) ∧ z1.st (N) i h ∧ z2.st (N + 1) i h) where
  mem := by simp
  obj := fun i h st c hc => by
    obtain ⟨hz, hTI, ⟨y1, y2, hTO⟩, s1, s2⟩ := st
    simp only [List.mem_cons, List.not_mem_nil, or_false] at hc
    rcases hc with rfl | rfl | rfl | rfl | rfl
    · exact ⟨_, hz, fun v q => nomatch q⟩
    · exact ⟨_, hTI, fun v q => nomatch q⟩
    · exact ⟨_, hTO, fun v q => nomatch q⟩
    · exact s1.obj
    · exact s2.obj
  keep := fun i h h' st k => by
    obtain ⟨hz, hTI, ⟨y1, y2, hTO⟩, s1, s2⟩ := st
    exact ⟨k _ (by simp) _ hz, k _ (by simp) _ hTI, ⟨y1, y2, k _ (by simp) _ hTO⟩, s1.keep fun o q => k _ (by simp) o q, s2.keep fun o q => k _ (by simp) o q⟩
  item := by
    intro X hP hw hK hc i pins s σ H E I hf st hg
    subst hP hw hK
    obtain ⟨hz, hTI, hTO, s1, s2⟩ := st
    obtain ⟨xs1, xs2, x1, x2, q1, q2, g1, g2⟩ := hg
    obtain ⟨f1, P1, St1, D1, c1, b1, o1, r1⟩ := ZS.draw I hc q1 s1 l1 (Nat.le_refl _)
    obtain ⟨f2, P2, St2, D2, c2, b2, o2, r2⟩ := ZS.draw I hc q2 s2 l2 (Nat.le_add_right _ _)
    have e1 : i < xs1.length := (List.getElem?_eq_some_iff.mp g1).1
    have e2 : i < xs2.length := (List.getElem?_eq_some_iff.mp g2).1
    refine (GoesN.zip2 (elts := elts) (x1 := kk) (pos := tpos) (zip_sep2 o1 o2) D1 D2).goes i s _ E (by omega) ⟨hz, hTI, hTO, c1, c2⟩ fun v h' tk ⟨T, u1, u2, ev, hT, p1, p2, ht⟩ ⟨hz', hTI', hTO', c1', c2'⟩ hk htk => ?_
    obtain ⟨w1, hw1, rw1⟩ := r1 _ _ p1
    rw [g1] at hw1
    cases hw1
    obtain ⟨w2, hw2, rw2⟩ := r2 _ _ p2
    rw [g2] at hw2
    cases hw2
    subst ev
    have new : ObjOk X.prog X.w (upd H T (.tup [x1, x2])) h' T (.tup [x1, x2]) :=
      ⟨by show 2 ≤ sizeLine; decide, [u1, u2], .cons rw1 (.cons rw2 (.nil)), ht⟩
    have I1 := I.turnedNew (t' := tk) (ch := [N + 4, N + 3, N, N + 1]) (fun b o hb q => hk b o hb q) (fun b hb => hf b (by
      simp only [List.mem_cons, List.not_mem_nil, or_false] at hb ⊢
      rcases hb with h | h | h | h <;> simp [h])) hT new
    refine ⟨.ref T, _, I1, rfl, ⟨T, x1, x2, rfl, I.hok.fresh hT, rfl, fun l hl => by rw [ZS.sq_inj I hl q1]; exact g1, fun l hl => by rw [ZS.sq_inj I hl q2]; exact g2⟩, ⟨hz', hTI', hTO', b1 _ _ c1', b2 _ _ c2'⟩, fun c hcm => ?_⟩
    have hlt : c < s.heap.objs.size := by
      simp only [List.mem_cons, List.not_mem_nil, or_false] at hcm
      rcases hcm with rfl | rfl | rfl | rfl | rfl
      · exact Heap.lt_size hz
      · exact Heap.lt_size hTI
      · obtain ⟨y1, y2, hTO⟩ := hTO
        exact Heap.lt_size hTO
      · obtain ⟨o, e, _⟩ := s1.obj; exact Heap.lt_size e
      · obtain ⟨o, e, _⟩ := s2.obj; exact Heap.lt_size e
    rw [upd_ne (Nat.ne_of_lt (Nat.lt_of_lt_of_le hlt hT))]
    exact (hf c hcm).1
  done := by
    intro X hP hw hK hc i pins s σ H E I hf st hg
    subst hP hw hK
    obtain ⟨hz, hTI, hTO, s1, s2⟩ := st
    obtain ⟨xs1, xs2, q1, q2, hi⟩ := hg
    obtain ⟨f1, P1, St1, D1, c1, b1, o1, r1⟩ := ZS.draw I hc q1 s1 l1 (Nat.le_refl _)
    obtain ⟨f2, P2, St2, D2, c2, b2, o2, r2⟩ := ZS.draw I hc q2 s2 l2 (Nat.le_add_right _ _)
    subst hi
    refine (GoesN.zip2 (elts := elts) (x1 := kk) (pos := tpos) (zip_sep2 o1 o2) D1 D2).stops s _ E ⟨hz, hTI, hTO, c1, c2⟩ fun h' tk hk htk => ?_
    exact I.turnedL (t' := tk) (ch := [N + 4, N + 3, N, N + 1]) (fun b o hb q => hk b o hb q) (fun b hb => hf b (by
      simp only [List.mem_cons, List.not_mem_nil, or_false] at hb ⊢
      rcases hb with h | h | h | h <;> simp [h]))
  self := fun A i s Q E st h => wpAny_pyIter_zip st.1 h
def iZip2s (K : PySem.W.Frag) (ta : TA) : TI := fun σ H R => ta σ H fun vs H1 => ∃ (z1 z2 : ZS) (xs1 xs2 : List V), vs = [z1.v, z2.v] ∧ z1.sq K H1 xs1 ∧ z2.sq K H1 xs2 ∧ R (Itz2s K z1 z2) H1
theorem pi_zip2s {X : Cx} {e1 e2 : Expr} {ta : TA} {p pos tpos : Pos} {elts : List Expr} {kk : Nat} (hg : Gl X "zip") (hm : X.mg "zip" = none) (ha : PA X [e1, e2] ta)
    (hs : starEach [e1, e2] X.env = (false, eval e1 X.env) :: starEach [e2] X.env := by rfl) (hpl : (backTo pos (starEach [e2] X.env)).any (·.1) = false := by rfl) :
    PI X (.Tuple elts kk tpos) (.Call (.Name "zip" p) [e1, e2] [] pos) (iZip2s X.K ta) := by
  refine ⟨fun pins s σ H R I h => ?_⟩
  refine Call_ (ld_blt I hg hm PyProof.Rows.boot_zip (PyProof.Rows.callWith_type1 (thn (ha.run pos pins s σ H _ I h) fun us s1 ⟨vs, H1, I1, rr, qq⟩ => ?_) hs hpl))
  obtain ⟨z1, z2, xs1, xs2, ex, q1, q2, q⟩ := qq
  subst ex
  obtain ⟨v1, us1, e1, r1, rr1⟩ : ∃ v l, us = v :: l ∧ RelV z1.v v ∧ Vals [z2.v] l := by
    cases rr with
    | cons a b => exact ⟨_, _, rfl, a, b⟩
  subst e1
  obtain ⟨v2, us2, e2, r2, rr2⟩ : ∃ v l, us1 = v :: l ∧ RelV z2.v v ∧ Vals [] l := by
    cases rr1 with
    | cons a b => exact ⟨_, _, rfl, a, b⟩
  subst e2
  cases rr2
  obtain ⟨o1, B1, b1, t1, w1, y1⟩ := ZS.begins I1 q1 r1
  obtain ⟨o2, B2, b2, t2, w2, y2⟩ := ZS.begins I1 q2 r2
  refine zip_begins2 b1 b2 t1 t2 fun h' hz hTI hTO g1 g2 hsz hk => wpAny_pyIter_zip hz ?_
  have I2 : Inv X pins σ H1 { s1 with heap := h' } := I1.kept (t' := s1.toks) hk
  refine ⟨s1.heap.objs.size + 4, [s1.heap.objs.size + 4, s1.heap.objs.size + 2, s1.heap.objs.size + 3, s1.heap.objs.size, s1.heap.objs.size + 1], _, _, H1, rfl, I2, turn_zip2s y1 y2, ⟨hz, hTI, ⟨_, _, hTO⟩, w1 _ _ g1, w2 _ _ g2⟩, fun c hcm => ?_, q⟩
  have hle : s1.heap.objs.size ≤ c := by
    simp only [List.mem_cons, List.not_mem_nil, or_false] at hcm
    rcases hcm with rfl | rfl | rfl | rfl | rfl <;> first | exact Nat.le_add_right _ _ | exact Nat.le_refl _
  exact I1.fpOk hle (I1.hok.fresh hle)
/-- zip of 3 -/
def Itz3s (K : PySem.W.Frag) (z1 z2 z3 : ZS) : It :=
  ⟨fun i H => ∃ (xs1 xs2 xs3 : List V) (x1 x2 x3 : V), z1.sq K H xs1 ∧ z2.sq K H xs2 ∧ z3.sq K H xs3 ∧ xs1[i]? = some x1 ∧ xs2[i]? = some x2 ∧ xs3[i]? = some x3,
    fun i H v H' => ∃ (T : Addr) (x1 x2 x3 : V), v = .ref T ∧ H T = none ∧ H' = upd H T (.tup [x1, x2, x3]) ∧ (∀ xs, z1.sq K H xs → xs[i]? = some x1) ∧ (∀ xs, z2.sq K H xs → xs[i]? = some x2) ∧ (∀ xs, z3.sq K H xs → xs[i]? = some x3),
    fun i H => ∃ (xs1 xs2 xs3 : List V), z1.sq K H xs1 ∧ z2.sq K H xs2 ∧ z3.sq K H xs3 ∧ i = min (min xs1.length xs2.length) xs3.length⟩
theorem turn_zip3s {P : Program} {w : World} {K : PySem.W.Frag} {elts : List Expr} {kk : Nat} {tpos : Pos} {z1 z2 z3 : ZS} {N : Addr} (l1 : z1.lt N) (l2 : z2.lt N) (l3 : z3.lt N) :
    Turn P w K (.Tuple elts kk tpos) (Itz3s K z1 z2 z3) [N + 5, N + 3, N + 4, N, N + 1, N + 2] (N + 5) (fun i h => IsZip h (N + 5) (N + 3) (N + 4) .none ∧ IsTupOf3 h (N + 3) (.ref (N)) (.ref (N + 1)) (.ref (N + 2)) ∧ (∃ a1 a2 a3, IsTupOf3 h (N + 4) a1 a2 a3) ∧ z1.st (N) i h ∧ z2.st (N + 1) i h ∧ z3.st (N + 2) i h) where
  mem := by simp
  obj := fun i h st c hc => by
    obtain ⟨hz, hTI, ⟨y1, y2, y3, hTO⟩, s1, s2, s3⟩ := st
    simp only [List.mem_cons, List.not_mem_nil, or_false] at hc
    rcases hc with rfl | rfl | rfl | rfl | rfl | rfl
    · exact ⟨_, hz, fun v q => nomatch q⟩
    · exact ⟨_, hTI, fun v q => nomatch q⟩
    · exact ⟨_, hTO, fun v q => nomatch q⟩
    · exact s1.obj
    · exact s2.obj
    · exact s3.obj
  keep := fun i h h' st k => by
    obtain ⟨hz, hTI, ⟨y1, y2, y3, hTO⟩, s1, s2, s3⟩ := st
    exact ⟨k _ (by simp) _ hz, k _ (by simp) _ hTI, ⟨y1, y2, y3, k _ (by simp) _ hTO⟩, s1.keep fun o q => k _ (by simp) o q, s2.keep fun o q => k _ (by simp) o q, s3.keep fun o q => k _ (by simp) o q⟩
  item := by
    intro X hP hw hK hc i pins s σ H E I hf st hg
    subst hP hw hK
    obtain ⟨hz, hTI, hTO, s1, s2, s3⟩ := st
    obtain ⟨xs1, xs2, xs3, x1, x2, x3, q1, q2, q3, g1, g2, g3⟩ := hg
    obtain ⟨f1, P1, St1, D1, c1, b1, o1, r1⟩ := ZS.draw I hc q1 s1 l1 (Nat.le_refl _)
    obtain ⟨f2, P2, St2, D2, c2, b2, o2, r2⟩ := ZS.draw I hc q2 s2 l2 (Nat.le_add_right _ _)
    obtain ⟨f3, P3, St3, D3, c3, b3, o3, r3⟩ := ZS.draw I hc q3 s3 l3 (Nat.le_add_right _ _)
    have e1 : i < xs1.length := (List.getElem?_eq_some_iff.mp g1).1
    have e2 : i < xs2.length := (List.getElem?_eq_some_iff.mp g2).1
    have e3 : i < xs3.length := (List.getElem?_eq_some_iff.mp g3).1
    refine (GoesN.zip3 (elts := elts) (x1 := kk) (pos := tpos) (zip_sep3 o1 o2 o3) D1 D2 D3).goes i s _ E (by omega) ⟨hz, hTI, hTO, c1, c2, c3⟩ fun v h' tk ⟨T, u1, u2, u3, ev, hT, p1, p2, p3, ht⟩ ⟨hz', hTI', hTO', c1', c2', c3'⟩ hk htk => ?_
    obtain ⟨w1, hw1, rw1⟩ := r1 _ _ p1
    rw [g1] at hw1
    cases hw1
    obtain ⟨w2, hw2, rw2⟩ := r2 _ _ p2
    rw [g2] at hw2
    cases hw2
    obtain ⟨w3, hw3, rw3⟩ := r3 _ _ p3
    rw [g3] at hw3
    cases hw3
    subst ev
    have new : ObjOk X.prog X.w (upd H T (.tup [x1, x2, x3])) h' T (.tup [x1, x2, x3]) :=
      ⟨by show 3 ≤ sizeLine; decide, [u1, u2, u3], .cons rw1 (.cons rw2 (.cons rw3 (.nil))), ht⟩
    have I1 := I.turnedNew (t' := tk) (ch := [N + 5, N + 4, N, N + 1, N + 2]) (fun b o hb q => hk b o hb q) (fun b hb => hf b (by
      simp only [List.mem_cons, List.not_mem_nil, or_false] at hb ⊢
      rcases hb with h | h | h | h | h <;> simp [h])) hT new
    refine ⟨.ref T, _, I1, rfl, ⟨T, x1, x2, x3, rfl, I.hok.fresh hT, rfl, fun l hl => by rw [ZS.sq_inj I hl q1]; exact g1, fun l hl => by rw [ZS.sq_inj I hl q2]; exact g2, fun l hl => by rw [ZS.sq_inj I hl q3]; exact g3⟩, ⟨hz', hTI', hTO', b1 _ _ c1', b2 _ _ c2', b3 _ _ c3'⟩, fun c hcm => ?_⟩
    have hlt : c < s.heap.objs.size := by
      simp only [List.mem_cons, List.not_mem_nil, or_false] at hcm
      rcases hcm with rfl | rfl | rfl | rfl | rfl | rfl
      · exact Heap.lt_size hz
      · exact Heap.lt_size hTI
      · obtain ⟨y1, y2, y3, hTO⟩ := hTO
        exact Heap.lt_size hTO
      · obtain ⟨o, e, _⟩ := s1.obj; exact Heap.lt_size e
      · obtain ⟨o, e, _⟩ := s2.obj; exact Heap.lt_size e
      · obtain ⟨o, e, _⟩ := s3.obj; exact Heap.lt_size e
    rw [upd_ne (Nat.ne_of_lt (Nat.lt_of_lt_of_le hlt hT))]
    exact (hf c hcm).1
  done := by
    intro X hP hw hK hc i pins s σ H E I hf st hg
    subst hP hw hK
    obtain ⟨hz, hTI, hTO, s1, s2, s3⟩ := st
    obtain ⟨xs1, xs2, xs3, q1, q2, q3, hi⟩ := hg
    obtain ⟨f1, P1, St1, D1, c1, b1, o1, r1⟩ := ZS.draw I hc q1 s1 l1 (Nat.le_refl _)
    obtain ⟨f2, P2, St2, D2, c2, b2, o2, r2⟩ := ZS.draw I hc q2 s2 l2 (Nat.le_add_right _ _)
    obtain ⟨f3, P3, St3, D3, c3, b3, o3, r3⟩ := ZS.draw I hc q3 s3 l3 (Nat.le_add_right _ _)
    subst hi
    refine (GoesN.zip3 (elts := elts) (x1 := kk) (pos := tpos) (zip_sep3 o1 o2 o3) D1 D2 D3).stops s _ E ⟨hz, hTI, hTO, c1, c2, c3⟩ fun h' tk hk htk => ?_
    exact I.turnedL (t' := tk) (ch := [N + 5, N + 4, N, N + 1, N + 2]) (fun b o hb q => hk b o hb q) (fun b hb => hf b (by
      simp only [List.mem_cons, List.not_mem_nil, or_false] at hb ⊢
      rcases hb with h | h | h | h | h <;> simp [h]))
  self := fun A i s Q E st h => wpAny_pyIter_zip st.1 h
def iZip3s (K : PySem.W.Frag) (ta : TA) : TI := fun σ H R => ta σ H fun vs H1 => ∃ (z1 z2 z3 : ZS) (xs1 xs2 xs3 : List V), vs = [z1.v, z2.v, z3.v] ∧ z1.sq K H1 xs1 ∧ z2.sq K H1 xs2 ∧ z3.sq K H1 xs3 ∧ R (Itz3s K z1 z2 z3) H1
theorem pi_zip3s {X : Cx} {e1 e2 e3 : Expr} {ta : TA} {p pos tpos : Pos} {elts : List Expr} {kk : Nat} (hg : Gl X "zip") (hm : X.mg "zip" = none) (ha : PA X [e1, e2, e3] ta)
    (hs : starEach [e1, e2, e3] X.env = (false, eval e1 X.env) :: starEach [e2, e3] X.env := by rfl) (hpl : (backTo pos (starEach [e2, e3] X.env)).any (·.1) = false := by rfl) :
    PI X (.Tuple elts kk tpos) (.Call (.Name "zip" p) [e1, e2, e3] [] pos) (iZip3s X.K ta) := by
  refine ⟨fun pins s σ H R I h => ?_⟩
  refine Call_ (ld_blt I hg hm PyProof.Rows.boot_zip (PyProof.Rows.callWith_type1 (thn (ha.run pos pins s σ H _ I h) fun us s1 ⟨vs, H1, I1, rr, qq⟩ => ?_) hs hpl))
  obtain ⟨z1, z2, z3, xs1, xs2, xs3, ex, q1, q2, q3, q⟩ := qq
  subst ex
  obtain ⟨v1, us1, e1, r1, rr1⟩ : ∃ v l, us = v :: l ∧ RelV z1.v v ∧ Vals [z2.v, z3.v] l := by
    cases rr with
    | cons a b => exact ⟨_, _, rfl, a, b⟩
  subst e1
  obtain ⟨v2, us2, e2, r2, rr2⟩ : ∃ v l, us1 = v :: l ∧ RelV z2.v v ∧ Vals [z3.v] l := by
    cases rr1 with
    | cons a b => exact ⟨_, _, rfl, a, b⟩
  subst e2
  obtain ⟨v3, us3, e3, r3, rr3⟩ : ∃ v l, us2 = v :: l ∧ RelV z3.v v ∧ Vals [] l := by
    cases rr2 with
    | cons a b => exact ⟨_, _, rfl, a, b⟩
  subst e3
  cases rr3
  obtain ⟨o1, B1, b1, t1, w1, y1⟩ := ZS.begins I1 q1 r1
  obtain ⟨o2, B2, b2, t2, w2, y2⟩ := ZS.begins I1 q2 r2
  obtain ⟨o3, B3, b3, t3, w3, y3⟩ := ZS.begins I1 q3 r3
  refine zip_begins3 b1 b2 b3 t1 t2 t3 fun h' hz hTI hTO g1 g2 g3 hsz hk => wpAny_pyIter_zip hz ?_
  have I2 : Inv X pins σ H1 { s1 with heap := h' } := I1.kept (t' := s1.toks) hk
  refine ⟨s1.heap.objs.size + 5, [s1.heap.objs.size + 5, s1.heap.objs.size + 3, s1.heap.objs.size + 4, s1.heap.objs.size, s1.heap.objs.size + 1, s1.heap.objs.size + 2], _, _, H1, rfl, I2, turn_zip3s y1 y2 y3, ⟨hz, hTI, ⟨_, _, _, hTO⟩, w1 _ _ g1, w2 _ _ g2, w3 _ _ g3⟩, fun c hcm => ?_, q⟩
  have hle : s1.heap.objs.size ≤ c := by
    simp only [List.mem_cons, List.not_mem_nil, or_false] at hcm
    rcases hcm with rfl | rfl | rfl | rfl | rfl | rfl <;> first | exact Nat.le_add_right _ _ | exact Nat.le_refl _
  exact I1.fpOk hle (I1.hok.fresh hle)
end DL
namespace DL
open PySem PySem.Spec PyProof.Rows L2

/-! ### zips, on data -/
/-- what is walked: a list, a tuple, a text -/
def seqD : PyData → Option (List PyData)
  | .list ds => some ds
  | .tuple ds => some ds
  | .str x => some ((L x).map fun c => S [c])
  | _ => none
theorem zs_of {K : PySem.W.Frag} {O : Addr → Prop} {H0 : Hp} {v : V} {d : PyData} {ds : List PyData} (is : Is O H0 v d) (e : seqD d = some ds) :
    ∃ (z : ZS) (xs : List V), v = z.v ∧ xs.length = ds.length ∧ z.sq K H0 xs ∧ ∀ O' H, Adv O O' H0 H → z.sq K H xs ∧ IsAll O' H xs ds := by
  cases is with
  | non => cases e
  | bl b => cases e
  | int i => cases e
  | @lst a xs ds' n r all =>
    cases e
    exact ⟨.l a, xs, rfl, all.length, SqL.of r, fun O' H m => ⟨SqL.of (m.1 _ _ r (.inl n)), all.mono m⟩⟩
  | @tup a xs ds' r all =>
    cases e
    exact ⟨.t a, xs, rfl, all.length, SqT.of r, fun O' H m => ⟨SqT.of (m.1 _ _ r (.inr rfl)), all.mono m⟩⟩
  | str x =>
    cases e
    have go : ∀ (l : List Nat) (O' : Addr → Prop) (H : Hp), IsAll O' H (l.map fun c => V.str ⟨#[c]⟩) (l.map fun c => S [c]) := by
      intro l O' H
      induction l with
      | nil => exact .nil
      | cons c l ih => exact .cons (.str _) ih
    exact ⟨.s x, x.cps.toList.map fun c => .str ⟨#[c]⟩, rfl, by rw [List.length_map, List.length_map]; rfl, rfl, fun O' H m => ⟨rfl, go _ _ _⟩⟩
  | dK n r t => cases e
  | dT n r t => cases e
def zip2D (xs ys : List PyData) : List PyData := List.zipWith (fun a b => .tuple [a, b]) xs ys
def zip3D (xs ys zs : List PyData) : List PyData := List.zipWith (fun ab c => match ab with | .tuple l => .tuple (l ++ [c]) | d => d) (zip2D xs ys) zs
theorem zw2 {xs ys : List PyData} {i : Nat} {d : PyData} (h : (zip2D xs ys)[i]? = some d) : ∃ a b, xs[i]? = some a ∧ ys[i]? = some b ∧ d = .tuple [a, b] := by
  unfold zip2D at h
  rw [List.getElem?_zipWith] at h
  cases q : xs[i]? with
  | none => rw [q] at h; cases h
  | some a =>
    cases q2 : ys[i]? with
    | none => rw [q, q2] at h; cases h
    | some b =>
      rw [q, q2] at h
      cases h
      exact ⟨a, b, rfl, rfl, rfl⟩
theorem zw3 {xs ys zs : List PyData} {i : Nat} {d : PyData} (h : (zip3D xs ys zs)[i]? = some d) : ∃ a b c, xs[i]? = some a ∧ ys[i]? = some b ∧ zs[i]? = some c ∧ d = .tuple [a, b, c] := by
  unfold zip3D at h
  rw [List.getElem?_zipWith] at h
  cases q : (zip2D xs ys)[i]? with
  | none => rw [q] at h; cases h
  | some ab =>
    obtain ⟨a, b, h1, h2, rfl⟩ := zw2 q
    cases q2 : zs[i]? with
    | none => rw [q, q2] at h; cases h
    | some c =>
      rw [q, q2] at h
      cases h
      exact ⟨a, b, c, h1, h2, rfl, rfl⟩
theorem Is.advNew {O : Addr → Prop} {H : Hp} {T : Addr} {u : HO} {v : V} {d : PyData} (is : Is O H v d) (h : H T = none) : Is O (upd H T u) v d := is.mono (.new h)
theorem src_zip2 {K : PySem.W.Frag} {O : Addr → Prop} {H0 : Hp} {v1 v2 : V} {d1 d2 : PyData} {ds1 ds2 : List PyData} {z1 z2 : ZS} {xs1 xs2 : List V} (l1 : xs1.length = ds1.length) (l2 : xs2.length = ds2.length)
    (k1 : ∀ O' H, Adv O O' H0 H → z1.sq K H xs1 ∧ IsAll O' H xs1 ds1) (k2 : ∀ O' H, Adv O O' H0 H → z2.sq K H xs2 ∧ IsAll O' H xs2 ds2) : Src (Itz2s K z1 z2) O H0 (zip2D ds1 ds2) := fun i O' H m => by
  obtain ⟨q1, a1⟩ := k1 _ _ m
  obtain ⟨q2, a2⟩ := k2 _ _ m
  refine ⟨fun d hd => ?_, fun hl => ⟨xs1, xs2, q1, q2, ?_⟩⟩
  · obtain ⟨a, b, h1, h2, rfl⟩ := zw2 hd
    obtain ⟨w1, g1, i1⟩ := a1.get h1
    obtain ⟨w2, g2, i2⟩ := a2.get h2
    refine ⟨⟨xs1, xs2, w1, w2, q1, q2, g1, g2⟩, fun x H' ⟨T, y1, y2, ex, hT, eH, f1, f2⟩ => ?_⟩
    subst ex eH
    have e1 := Option.some.inj ((f1 xs1 q1).symm.trans g1)
    have e2 := Option.some.inj ((f2 xs2 q2).symm.trans g2)
    subst e1 e2
    exact ⟨same_new hT, .tup upd_same (.cons (i1.advNew hT) (.cons (i2.advNew hT) .nil))⟩
  · rw [zip2D, List.length_zipWith] at hl
    rw [l1, l2]
    exact hl
theorem src_zip3 {K : PySem.W.Frag} {O : Addr → Prop} {H0 : Hp} {ds1 ds2 ds3 : List PyData} {z1 z2 z3 : ZS} {xs1 xs2 xs3 : List V} (l1 : xs1.length = ds1.length) (l2 : xs2.length = ds2.length) (l3 : xs3.length = ds3.length)
    (k1 : ∀ O' H, Adv O O' H0 H → z1.sq K H xs1 ∧ IsAll O' H xs1 ds1) (k2 : ∀ O' H, Adv O O' H0 H → z2.sq K H xs2 ∧ IsAll O' H xs2 ds2) (k3 : ∀ O' H, Adv O O' H0 H → z3.sq K H xs3 ∧ IsAll O' H xs3 ds3) : Src (Itz3s K z1 z2 z3) O H0 (zip3D ds1 ds2 ds3) := fun i O' H m => by
  obtain ⟨q1, a1⟩ := k1 _ _ m
  obtain ⟨q2, a2⟩ := k2 _ _ m
  obtain ⟨q3, a3⟩ := k3 _ _ m
  refine ⟨fun d hd => ?_, fun hl => ⟨xs1, xs2, xs3, q1, q2, q3, ?_⟩⟩
  · obtain ⟨a, b, c, h1, h2, h3, rfl⟩ := zw3 hd
    obtain ⟨w1, g1, i1⟩ := a1.get h1
    obtain ⟨w2, g2, i2⟩ := a2.get h2
    obtain ⟨w3, g3, i3⟩ := a3.get h3
    refine ⟨⟨xs1, xs2, xs3, w1, w2, w3, q1, q2, q3, g1, g2, g3⟩, fun x H' ⟨T, y1, y2, y3, ex, hT, eH, f1, f2, f3⟩ => ?_⟩
    subst ex eH
    have e1 := Option.some.inj ((f1 xs1 q1).symm.trans g1)
    have e2 := Option.some.inj ((f2 xs2 q2).symm.trans g2)
    have e3 := Option.some.inj ((f3 xs3 q3).symm.trans g3)
    subst e1 e2 e3
    exact ⟨same_new hT, .tup upd_same (.cons (i1.advNew hT) (.cons (i2.advNew hT) (.cons (i3.advNew hT) .nil)))⟩
  · rw [zip3D, zip2D, List.length_zipWith, List.length_zipWith] at hl
    rw [l1, l2, l3]
    exact hl
section
variable {X : Cx} {e e1 e2 e3 : Expr} {t : DTA} {pos : Pos}
def iZ2 (t : DTA) : DTI := fun ρ q => t ρ fun os ρ1 => tkAll os ρ1 fun ds ρ2 => match ds with
  | [d, e] => ∃ xs ys, seqD d = some xs ∧ seqD e = some ys ∧ q (zip2D xs ys) ρ2
  | _ => False
def iZ3 (t : DTA) : DTI := fun ρ q => t ρ fun os ρ1 => tkAll os ρ1 fun ds ρ2 => match ds with
  | [d, e, f] => ∃ xs ys zs, seqD d = some xs ∧ seqD e = some ys ∧ seqD f = some zs ∧ q (zip3D xs ys zs) ρ2
  | _ => False
theorem isAll2 {O : Addr → Prop} {H : Hp} {xs : List V} {d e : PyData} (h : IsAll O H xs [d, e]) : ∃ x y, xs = [x, y] ∧ Is O H x d ∧ Is O H y e := by
  cases h with
  | cons r t =>
    cases t with
    | cons r' t => cases t; exact ⟨_, _, rfl, r, r'⟩
theorem isAll3 {O : Addr → Prop} {H : Hp} {xs : List V} {d e f : PyData} (h : IsAll O H xs [d, e, f]) : ∃ x y z, xs = [x, y, z] ∧ Is O H x d ∧ Is O H y e ∧ Is O H z f := by
  cases h with
  | cons r t =>
    obtain ⟨y, z, rfl, r1, r2⟩ := isAll2 t
    exact ⟨_, y, z, rfl, r, r1, r2⟩
theorem di_zip2 {p tpos : Pos} {elts : List Expr} {kk : Nat} (hg : Gl X "zip") (hm : X.mg "zip" = none) (ha : DA X [e1, e2] t)
    (hs : starEach [e1, e2] X.env = (false, eval e1 X.env) :: starEach [e2] X.env := by rfl) (hpl : (backTo pos (starEach [e2] X.env)).any (·.1) = false := by rfl) :
    DI X (.Tuple elts kk tpos) (.Call (.Name "zip" p) [e1, e2] [] pos) (iZ2 t) := PI.imp (pi_zip2s hg hm ha hs hpl) fun σ H R' ⟨B, ρ, q, R, t, k⟩ => by
  refine ⟨B, ρ, _, R, t, fun os ρ1 vs H1 t1 m1 R1 i1 => ?_⟩
  obtain ⟨ds, ρ2, h2, is, R2, m2⟩ := OAll.tk R1 i1 t1
  split at h2
  · obtain ⟨xs, ys, g1, g2, h3⟩ := h2
    obtain ⟨v1, v2, rfl, j1, j2⟩ := isAll2 is
    obtain ⟨z1, xs1, f1, l1, s1, k1⟩ := zs_of (K := X.K) j1 g1
    obtain ⟨z2, xs2, f2, l2, s2, k2⟩ := zs_of (K := X.K) j2 g2
    exact ⟨z1, z2, xs1, xs2, by rw [f1, f2], s1, s2, k _ _ _ _ h3 (m1.trans m2) R2 (src_zip2 (v1 := v1) (v2 := v2) (d1 := .none) (d2 := .none) l1 l2 k1 k2)⟩
  · exact h2.elim
theorem di_zip3 {p tpos : Pos} {elts : List Expr} {kk : Nat} (hg : Gl X "zip") (hm : X.mg "zip" = none) (ha : DA X [e1, e2, e3] t)
    (hs : starEach [e1, e2, e3] X.env = (false, eval e1 X.env) :: starEach [e2, e3] X.env := by rfl) (hpl : (backTo pos (starEach [e2, e3] X.env)).any (·.1) = false := by rfl) :
    DI X (.Tuple elts kk tpos) (.Call (.Name "zip" p) [e1, e2, e3] [] pos) (iZ3 t) := PI.imp (pi_zip3s hg hm ha hs hpl) fun σ H R' ⟨B, ρ, q, R, t, k⟩ => by
  refine ⟨B, ρ, _, R, t, fun os ρ1 vs H1 t1 m1 R1 i1 => ?_⟩
  obtain ⟨ds, ρ2, h2, is, R2, m2⟩ := OAll.tk R1 i1 t1
  split at h2
  · obtain ⟨xs, ys, zs, g1, g2, g3, h3⟩ := h2
    obtain ⟨v1, v2, v3, rfl, j1, j2, j3⟩ := isAll3 is
    obtain ⟨z1, xs1, f1, l1, s1, k1⟩ := zs_of (K := X.K) j1 g1
    obtain ⟨z2, xs2, f2, l2, s2, k2⟩ := zs_of (K := X.K) j2 g2
    obtain ⟨z3, xs3, f3, l3, s3, k3⟩ := zs_of (K := X.K) j3 g3
    exact ⟨z1, z2, z3, xs1, xs2, xs3, by rw [f1, f2, f3], s1, s2, s3, k _ _ _ _ h3 (m1.trans m2) R2 (src_zip3 l1 l2 l3 k1 k2 k3)⟩
  · exact h2.elim
end

/-! ### a, b = a list -/
section
variable {prog : Program} {w : World} {A : Around} {E : Value → Shared → Prop} {s : Shared}
theorem draw_list {it t : Addr} {items : Array Value} (ne' : t ≠ it) : ∀ (n i : Nat) (s : Shared) (Q : List Value → Shared → Prop), s.heap.IsListIter it t i → s.heap.IsList t items → i + n ≤ items.size →
    (∀ h', h'.IsListIter it t (i + n) → Heap.SameBut it s.heap h' → Q ((items.toList.drop i).take n) { s with heap := h' }) → wpAny (model prog w) A (draw (.ref it) n) Q E s := by
  intro n
  induction n with
  | zero =>
    intro i s Q hit _ _ hQ
    show wpAny _ _ (pure []) Q E s
    exact wpAny_pure (by simpa using hQ s.heap hit (Heap.SameBut.refl ..))
  | succ n ih =>
    intro i s Q hit ht hle hQ
    have lt : i < items.size := by omega
    show wpAny _ _ (pyNext (.ref it) >>= _) Q E s
    refine wpAny_bind (wpAny_pyNext_list_item hit ht (x := items[i]) (by simp [lt]) fun h1 hit1 s1 => ?_)
    refine wpAny_bind (wpAny_holding (ih (i + 1) _ _ hit1 (ht.extBut s1.extBut ne') (by omega) fun h2 hit2 s2 => wpAny_pure ?_))
    have e : items.toList.drop i = items[i] :: items.toList.drop (i + 1) := by simp [List.drop_eq_getElem_cons, lt]
    have r := hQ h2 (by rw [show i + (n + 1) = i + 1 + n by omega]; exact hit2) (s1.trans s2)
    rw [e, List.take_succ_cons] at r
    exact r
theorem unpack_items_list {t : Addr} {items : Array Value} {Q : List Value → Shared → Prop} (hh : A.handled = none) (ht : s.heap.IsList t items)
    (hQ : ∀ h', Heap.ExtBut s.heap.objs.size s.heap h' → Q items.toList { s with heap := h' }) : wpAny (model prog w) A (unpackItems (.ref t) items.size none) Q E s := by
  have ne' : t ≠ s.heap.objs.size := by obtain ⟨o, ho, _⟩ := ht; exact Nat.ne_of_lt (Heap.lt_size ho)
  unfold unpackItems
  refine wpAny_bind ?_
  unfold notIterableAtAll
  refine wpAny_bind (wpAny_specialOf ht.typeIs PySem.slot_list_iter.lookup (wpAny_pure ?_))
  simp only [Bool.false_eq_true, if_false]
  refine wpAny_bind (wpAny_holding (wpAny_pyIter_list ht ?_))
  have new : (s.heap.push { cls := .type "list_iterator", data := .fields #[.ref t, .int 0 0] }).IsListIter s.heap.objs.size t 0 := ⟨_, Heap.get?_push_size _ rfl, rfl, rfl⟩
  refine wpAny_bind (wpAny_holding (draw_list ne' items.size 0 _ _ new (ht.at fun o e => Heap.get?_push_of_some _ e) (by omega) fun h1 hit1 s1 => ?_))
  have all : List.take items.size (List.drop 0 items.toList) = items.toList := by
    rw [List.drop_zero]; exact List.take_of_length_le (by simp)
  rw [all, if_neg (by simp)]
  have ht1 : h1.IsList t items := (ht.at fun o e => Heap.get?_push_of_some _ e).extBut s1.extBut ne'
  refine wpAny_bind (wpAny_holding (wpAny_pyNext_list_end hh hit1 ht1 (by simp) fun h2 x2 => ?_))
  simp only [Option.isSome_none, Bool.false_eq_true, if_false]
  exact wpAny_pure (hQ h2 fun b o hb e => x2 b o hb (s1.extBut b o hb (Heap.get?_push_of_some _ e)))
end
section
variable {X : Cx} {a : Expr} {es : List Expr} {ws : List Nat} {pos : Pos}
def gLst (K : PySem.W.Frag) (n : Nat) (t : TGs) : TG := fun v σ H Q => ∃ a xs, v = .ref a ∧ SqL K H a xs ∧ xs.length = n ∧ t xs σ H Q
theorem pg_lst {k : Nat} {t : TGs} {n : Nat} (hc : X.calm = true) (h : PGs X es t)
    (hn : (assignEach es X.env).length = n := by rfl) (hst : (assignEach es X.env).findIdx? (·.1) = none := by rfl) : PG X (.Tuple es k pos) (gLst X.K n t) := by
  refine ⟨fun pins s σ H v u Q I r hw => ?_⟩
  obtain ⟨a, xs, e1, hq, hl, hw⟩ := hw
  subst e1
  cases r
  obtain ⟨its, rv, ht, hz⟩ := I.list hq
  rw [PyProof.Rows.assign_Tuple]
  refine wpAny_bind (wpAny_standAt ?_)
  unfold unpack
  rw [hn, hst]
  have e : n = its.toArray.size := by simp [← hl, rv.length]
  rw [e]
  refine wpAny_bind (wpAny_holding (unpack_items_list (I.ok.hd hc) ht.isList fun h' hx => ?_))
  have I1 : Inv X pins σ H { s with heap := h' } := I.kept (t' := s.toks) fun b o e => hx b o (Nat.ne_of_lt (Heap.lt_size e)) e
  exact h.run pins _ σ H xs _ Q I1 (by simpa using rv) hw
def tgLst (n : Nat) (h : DTGs) : DTG := fun d ρ q => match d with
  | .list ds => ds.length = n ∧ h ds ρ q
  | _ => False
theorem dg_lst {h : DTGs} {n kk : Nat} (hc : X.calm = true) (h1 : DGs X es ws h) (hn : (assignEach es X.env).length = n := by rfl) (hst : (assignEach es X.env).findIdx? (·.1) = none := by rfl) : DG1 X (.Tuple es kk pos) ws (tgLst n h) := PG.imp (pg_lst hc h1 hn hst) fun v σ H Q ⟨B, ρ, d, q, R, is, t, k⟩ => by
  unfold tgLst at t
  split at t
  · obtain ⟨a, xs, e1, e2, e3⟩ := is.lst'
    exact ⟨a, xs, e1, SqL.of e2, by rw [e3.length]; exact t.1, B, ρ, _, q, R, e3, t.2, k⟩
  · exact t.elim
end

section
variable {X : Cx} {a : Expr} {es : List Expr} {ws : List Nat} {pos : Pos}
theorem PG.or {e : Expr} {t1 t2 : TG} (h1 : PG X e t1) (h2 : PG X e t2) : PG X e (fun v σ H Q => t1 v σ H Q ∨ t2 v σ H Q) := ⟨fun pins s σ H v u Q I r hq => hq.elim (h1.run pins s σ H v u Q I r) (h2.run pins s σ H v u Q I r)⟩
/-- a, b = a tuple or a list -/
def tgSeq (n : Nat) (h : DTGs) : DTG := fun d ρ q => match d with
  | .list ds => ds.length = n ∧ h ds ρ q
  | .tuple ds => ds.length = n ∧ h ds ρ q
  | _ => False
theorem dg_seq {h : DTGs} {n kk : Nat} (hc : X.calm = true) (h1 : DGs X es ws h) (hn : (assignEach es X.env).length = n := by rfl) (hst : (assignEach es X.env).findIdx? (·.1) = none := by rfl) : DG1 X (.Tuple es kk pos) ws (tgSeq n h) := PG.imp (PG.or (dg_tup hc h1 hn hst) (dg_lst hc h1 hn hst)) fun v σ H Q ⟨B, ρ, d, q, R, is, t, k⟩ => by
  unfold tgSeq at t
  split at t
  · exact .inr ⟨B, ρ, _, q, R, is, t, k⟩
  · exact .inl ⟨B, ρ, _, q, R, is, t, k⟩
  · exact t.elim
end

/-! ### dict(zip(xs, ys)) -/
section
variable {X : Cx} {e1 e2 : Expr} {ta : TA} {t : DTA} {p p2 pos pos2 : Pos}
def tDZip (K : PySem.W.Frag) (ta : TA) : TE := fun σ H Q => ta σ H fun vs H1 => ∃ (a b : Addr) (ks : List Key) (ys : List V), vs = [.ref a, .ref b] ∧ SqL K H1 a (ks.map kV) ∧ SqL K H1 b ys ∧ ks.length ≤ sizeLine ∧ ∀ p, H1 p = none → Q (.ref p) (upd H1 p (.dK (mergeK [] (ks.zip ys))))
theorem kv_zip : ∀ {ks : List Key} {us : List Value} {ys : List V} {ws : List Value}, Vals (ks.map kV) us → Vals ys ws → KV (ks.zip ys) (ks.zip ws)
  | [], _, _, _, _, _ => .nil
  | k :: ks, us, [], ws, _, r => by
    cases r
    exact .nil
  | k :: ks, us, y :: ys, ws, q, r => by
    cases r with
    | cons r1 r2 =>
      cases q with
      | cons q1 q2 => exact .cons ⟨rfl, r1⟩ (kv_zip q2 r2)
theorem kv_at {P : Program} {w : World} {ks : List Key} {us ws : List Value} (q : Vals (ks.map kV) us) {i : Nat} {key v : Value} (h1 : us[i]? = some key) (h2 : ws[i]? = some v) : ∃ k, (ks.zip ws)[i]? = some (k, v) ∧ (mixKind P w).is k key = true := by
  obtain ⟨x, h3, r⟩ := rel_get q h1
  rw [List.getElem?_map] at h3
  cases e : ks[i]? with
  | none => rw [e] at h3; cases h3
  | some k =>
    rw [e] at h3
    cases h3
    refine ⟨k, ?_, kV_is r⟩
    rw [List.zip, List.getElem?_zipWith, e, h2]
theorem pe_dzip (hg : Gl X "dict") (hm : X.mg "dict" = none) (hg2 : Gl X "zip") (hm2 : X.mg "zip" = none) (hc : X.calm = true) (ha : PA X [e1, e2] ta)
    (hs : starEach [.Call (.Name "zip" p2) [e1, e2] [] pos2] X.env = (false, eval (.Call (.Name "zip" p2) [e1, e2] [] pos2) X.env) :: starEach [] X.env := by rfl) (hpl : (backTo pos (starEach [] X.env)).any (·.1) = false := by rfl)
    (hs2 : starEach [e1, e2] X.env = (false, eval e1 X.env) :: starEach [e2] X.env := by rfl) (hpl2 : (backTo pos2 (starEach [e2] X.env)).any (·.1) = false := by rfl) :
    PE X (.Call (.Name "dict" p) [.Call (.Name "zip" p2) [e1, e2] [] pos2] [] pos) (tDZip X.K ta) := by
  refine ⟨fun pins s σ H Q I h => ?_⟩
  refine Call_ (ld_blt I hg hm PyProof.Rows.boot_dict (PyProof.Rows.callWith_type1 (PyProof.Rows.spliced_more ?_ hs) hs hpl))
  refine Call_ (ld_blt I hg2 hm2 PyProof.Rows.boot_zip (PyProof.Rows.callWith_type1 (thn (ha.run pos2 pins s σ H _ I h) fun us s1 ⟨vs, H1, I1, r1, q1⟩ => ?_) hs2 hpl2))
  obtain ⟨a, b, ks, ys, ex, hq1, hq2, hl, hQ⟩ := q1
  subst ex
  obtain ⟨v1, v2, eu, r2, r3⟩ : ∃ v1 v2, us = [v1, v2] ∧ RelV (.ref a) v1 ∧ RelV (.ref b) v2 := by
    cases r1 with
    | cons x y =>
      cases y with
      | cons x' y' =>
        cases y'
        exact ⟨_, _, rfl, x, x'⟩
  subst eu
  cases r2
  cases r3
  obtain ⟨its, rv, p1, _⟩ := I1.list hq1
  obtain ⟨its2, rv2, p2, _⟩ := I1.list hq2
  refine call_zip_2 p1.isList p2.isList fun h' hz hTI hTO h1 h2 hsz hk => PyProof.Rows.spliced_none ?_
  have I2 : Inv X pins σ H1 { s1 with heap := h' } := I1.kept (t' := s1.toks) hk
  have n1 : its.length = ks.length := by rw [← rv.length, List.length_map]
  refine PySem.call_dict_pairs (knd := mixKind X.prog X.w) (kvs := ks.zip its2) (PairArg.zip _ _ _ _ _ _ _ (PySem.W.ktu_apart s1.heap.objs.size a b p1.lt p2.lt) its.toArray its2.toArray) (I.ok.hd hc)
    ⟨hz, hTI, ⟨_, _, hTO⟩, h1, h2, p1.isList.at fun o e => hk _ o e, p2.isList.at fun o e => hk _ o e⟩ ⟨?_, fun i key v ⟨g1, g2⟩ => kv_at rv (by simpa using g1) (by simpa using g2)⟩ ?_ fun h'' tk dd k2 => ?_
  · simp [n1]
  · have : min its.toArray.size its2.toArray.size ≤ ks.length := by simp; omega
    omega
  · have lt : s1.heap.objs.size ≤ h'.objs.size := by rw [hsz]; omega
    have kk : ∀ c o, s1.heap.get? c = some o → h''.get? c = some o := fun c o e => by
      refine k2 c o (fun hm => ?_) (hk c o e)
      have hc := Heap.lt_size e
      simp only [List.mem_cons, List.not_mem_nil, or_false] at hm
      have : s1.heap.objs.size ≤ c := by
        rcases hm with rfl | rfl | rfl | rfl <;> first | exact Nat.le_add_right _ _ | exact Nat.le_refl _
      exact absurd hc (Nat.not_lt.mpr this)
    have hn : H1 h'.objs.size = none := I1.hok.fresh lt
    have rel := (kv_zip rv rv2).merge (kvs := []) (vs := []) .nil
    have zz : (mergeK [] (ks.zip ys)).length ≤ sizeLine := by
      have h1 := length_mergeK (ks.zip ys) []
      rw [List.length_nil, List.length_zip] at h1
      omega
    refine ⟨.ref h'.objs.size, _, I1.laid (a := h'.objs.size) (o := .dK (mergeK [] (ks.zip ys))) (t' := tk) kk lt ⟨zz, ?_, _, rel, dd⟩, rfl, hQ _ hn⟩
    exact beq_eq_false_iff_ne.mpr (Ne.symm (Nat.ne_of_lt (Nat.lt_of_lt_of_le I1.big lt)))
/-- the keys of a list -/
def keysD : List PyData → Bool
  | [] => true
  | d :: ds => isKey d && keysD ds
theorem keys_is {O : Addr → Prop} {H : Hp} : ∀ {xs : List V} {ds : List PyData}, IsAll O H xs ds → keysD ds = true → ∃ ks : List Key, xs = ks.map kV ∧ ds = ks.map kD
  | _, _, .nil, _ => ⟨[], rfl, rfl⟩
  | _, _, .cons h t, e => by
    simp only [keysD, Bool.and_eq_true] at e
    obtain ⟨k, rfl, rfl⟩ := key_of_is (.inl h) e.1
    obtain ⟨ks, rfl, rfl⟩ := keys_is t e.2
    exact ⟨k :: ks, rfl, rfl⟩
theorem IsK.zip {O : Addr → Prop} {H : Hp} : ∀ {ks : List Key} {ys : List V} {es : List PyData}, IsAll O H ys es → IsK O H (ks.zip ys) ((ks.map kD).zip es)
  | [], _, _, _ => .nilK
  | _ :: _, _, _, .nil => .nilK
  | _ :: _, _, _, .cons h t => .consK h (IsK.zip t)
theorem IsK.merge {O : Addr → Prop} {H : Hp} : ∀ {more : List (Key × V)} {ms es : List (PyData × PyData)} {kvs : List (Key × V)}, IsK O H more ms → IsK O H kvs es → IsK O H (mergeK kvs more) (dMerge es ms)
  | _, _, _, _, .nilK, h => h
  | (k, v) :: r, (_, d) :: ms, es, kvs, .consK i t, h => IsK.merge (more := r) (ms := ms) (es := dPutD es (kD k) d) (kvs := putK kvs k v) t (h.put k i)
/-- dict(zip(xs, ys)) -/
def fDZip (t : DTA) : DTF := fun ρ q => t ρ fun os ρ1 => tkAll os ρ1 fun ds ρ2 => match ds with
  | [.list xs, .list ys] => keysD xs = true ∧ xs.length ≤ 16777216 ∧ q (.dict (dMerge [] (xs.zip ys))) ρ2
  | _ => False
theorem dfr_dzip (hg : Gl X "dict") (hm : X.mg "dict" = none) (hg2 : Gl X "zip") (hm2 : X.mg "zip" = none) (hc : X.calm = true) (ha : DA X [e1, e2] t)
    (hs : starEach [.Call (.Name "zip" p2) [e1, e2] [] pos2] X.env = (false, eval (.Call (.Name "zip" p2) [e1, e2] [] pos2) X.env) :: starEach [] X.env := by rfl) (hpl : (backTo pos (starEach [] X.env)).any (·.1) = false := by rfl)
    (hs2 : starEach [e1, e2] X.env = (false, eval e1 X.env) :: starEach [e2] X.env := by rfl) (hpl2 : (backTo pos2 (starEach [e2] X.env)).any (·.1) = false := by rfl) :
    DFr X (.Call (.Name "dict" p) [.Call (.Name "zip" p2) [e1, e2] [] pos2] [] pos) (fDZip t) := PE.imp (pe_dzip hg hm hg2 hm2 hc ha hs hpl hs2 hpl2) fun σ H Q ⟨B, ρ, q, R, t, k⟩ => by
  refine ⟨B, ρ, _, R, t, fun os ρ1 vs H1 t1 m1 R1 i1 => ?_⟩
  obtain ⟨ds, ρ2, h2, is, R2, m2⟩ := OAll.tk R1 i1 t1
  split at h2
  · obtain ⟨kd, hl, h3⟩ := h2
    obtain ⟨v1, v2, rfl, j1, j2⟩ := isAll2 is
    obtain ⟨a, xs, rfl, ea, alla⟩ := j1.lst'
    obtain ⟨b, ys, rfl, eb, allb⟩ := j2.lst'
    obtain ⟨ks, rfl, rfl⟩ := keys_is alla kd
    refine ⟨a, b, ks, ys, rfl, SqL.of ea, SqL.of eb, by rw [sizeLine_eq]; simpa using hl, fun p hp => ?_⟩
    obtain ⟨R3, tp, m3⟩ := R2.fresh hp (.dK ((IsK.zip allb).merge .nilK))
    obtain ⟨f1, f2⟩ := R2.entry hp
    exact k _ _ _ _ h3 f1 f2 ((m1.trans m2).trans m3) R3 tp
  · exact h2.elim
end
end DL
namespace DL
open PySem PySem.Spec PyProof.Rows L2

/-! ### data as the kit reads it -/
theorem is_reads {P : Program} {w : World} {O : Addr → Prop} {H : Hp} {h : Heap} (ok : HOk P w H h) {v : V} {d : PyData} (is : Is O H v d) : ∀ u : Value, d.hasDict = false → RelV v u → ∃ as, Reads h u d as := by
  induction is using Is.rec (motive_2 := fun xs ds _ => ∀ us : List Value, PyData.hasDictAll ds = false → Vals xs us → ∃ as, ReadsAll h us ds as) (motive_3 := fun _ _ _ => True) (motive_4 := fun _ _ _ => True) with
  | non => intro u _ r; obtain rfl : u = Value.none := r; exact ⟨_, .none⟩
  | bl b => intro u _ r; obtain rfl : u = Value.bool b := r; exact ⟨_, .bool b⟩
  | int i => intro u _ r; obtain ⟨t, rfl⟩ := r; exact ⟨_, .int i t⟩
  | str x => intro u _ r; obtain ⟨t, rfl⟩ := r; exact ⟨_, .str x t⟩
  | lst n e all ih =>
    intro u hd r
    cases r
    obtain ⟨z, its, m, rv, q⟩ := ok _ _ e
    obtain ⟨as, ra⟩ := ih its (by simpa only [PyData.hasDict] using hd) rv
    exact ⟨_, .list q rfl rfl ra⟩
  | tup e all ih =>
    intro u hd r
    cases r
    obtain ⟨z, its, rv, o, q, c, m, dt⟩ := (show ObjOk P w H h _ (.tup _) from ok _ _ e)
    obtain ⟨as, ra⟩ := ih its (by simpa only [PyData.hasDict] using hd) rv
    exact ⟨_, .tuple q c dt ra⟩
  | dK n r all ih => intro u hd _; simp [PyData.hasDict] at hd
  | dT n r all ih => intro u hd _; simp [PyData.hasDict] at hd
  | nil =>
    first
      | exact ⟨_, .nil⟩
      | (rename_i r; cases r; exact ⟨_, .nil⟩)
      | (intro us _ r; cases r; exact ⟨_, .nil⟩)
  | cons a b iha ihb =>
    rename_i us hd r
    simp only [PyData.hasDictAll, Bool.or_eq_false_iff] at hd
    cases r with
    | cons r1 r2 =>
      obtain ⟨as, ra⟩ := iha _ hd.1 r1
      obtain ⟨bs, rb⟩ := ihb _ hd.2 r2
      exact ⟨_, .cons ra rb⟩
  | nilK => trivial
  | consK _ _ _ _ => trivial
  | nilT => trivial
  | consT _ _ _ _ => trivial

/-! ### repr -/
def rReprD : List V → Hp → VK → Prop := fun xs H Q => ∃ v d, xs = [v] ∧ RdX H v d ∧ d.showable = true ∧ d.hasDict = false ∧ d.depth ≤ 60 ∧ d.shown.length ≤ sizeLine ∧ Q (.str d.shown) H
theorem call_reprD {X : Cx} (hg0 : X.A.guards = some []) (hu : X.A.units + 64 < cLine) : CallR X (.builtin "repr") rReprD := by
  intro pins s σ H xs us Q I rs h
  obtain ⟨v, d, rfl, ⟨O, is⟩, hs, hd, hp, hz, q⟩ := h
  obtain ⟨u, rfl, r⟩ : ∃ u, us = [u] ∧ RelV v u := by
    cases rs with
    | cons a b => cases b; exact ⟨_, rfl, a⟩
  obtain ⟨as, rd⟩ := is_reads I.hok is u hd r
  have fin : ∀ (d : PyData) (h' : Heap) (t : Tok) (tk : Nat), (∀ b o, s.heap.get? b = some o → h'.get? b = some o) → Q (.str d.shown) H → EP X pins σ Q (.str d.shown t) { s with heap := h', toks := tk } := fun d h' t tk k q => ⟨.str d.shown, H, I.kept k, ⟨t, rfl⟩, q⟩
  have fin0 : ∀ (z : Str) (t : Tok), Q (.str z) H → EP X pins σ Q (.str z t) { s with toks := s.toks + 1 } := fun z t q => ⟨.str z, H, I.tok _, ⟨t, rfl⟩, q⟩
  cases rd with
  | none =>
    simp only [PyData.shown] at hz q
    exact P.repr_of_none (fin0 _ _ q)
  | bool b =>
    simp only [PyData.shown] at hz q
    exact P.repr_of_bool (fin0 _ _ q)
  | int i t =>
    simp only [PyData.shown] at hz q
    exact P.repr_of_int (by simpa [PyData.showable] using hs) (fin0 _ _ q)
  | str x t =>
    simp only [PyData.shown] at hz q
    exact P.repr_of_str (fin0 _ _ q) hz
  | list h1 h2 h3 h4 => exact repr_of_reads' (.list h1 h2 h3 h4) hs (PyData.noDict_hsm hd) hg0 (by omega) (fun _ _ e => e) (fun h' t tk k => fin _ h' t tk k q) hz
  | tuple h1 h2 h3 h4 => exact repr_of_reads' (.tuple h1 h2 h3 h4) hs (PyData.noDict_hsm hd) hg0 (by omega) (fun _ _ e => e) (fun h' t tk k => fin _ h' t tk k q) hz
  | dict h1 h2 h3 h4 h5 => simp [PyData.hasDict] at hd
/-- it may be shown -/
def Shows (d : PyData) : Prop := d.showable = true ∧ d.hasDict = false ∧ d.depth ≤ 60 ∧ d.shown.length ≤ 16777216
section
variable {X : Cx} {a b c e : Expr} {es : List Expr} {ta tb tc : DT} {pos : Pos} {x : Str} {p : Pos}
def dRepr (ta : DT) : DT := fun ρ q => ta ρ fun o ρ1 => o.rdx ρ1 fun d => Shows d ∧ q (.vl (.str d.shown)) ρ1
theorem do_repr (hg0 : X.A.guards = some []) (hu : X.A.units + 64 < cLine) (hg : Gl X "repr") (hm : X.mg "repr" = none) (ha : DO X e ta) (he : starEach [e] X.env = (false, eval e X.env) :: starEach [] X.env := by rfl) :
    DO X (.Call (.Name "repr" p) [e] [] pos) (dRepr ta) := PE.imp (pe_callB (call_reprD hg0 hu) hg hm (by decide +kernel) (pa_cons ha pa_nil he) (by decide) (by decide) he) fun σ H Q ⟨B, ρ, q, R, t, k⟩ => by
  refine ⟨B, ρ, _, R, t, fun o ρ1 v H1 t1 m1 R1 i1 => ?_⟩
  obtain ⟨d, ⟨⟨s1, s2, s3, s4⟩, h2⟩, rd⟩ := i1.rdx R1 t1
  exact ⟨v, d, rfl, rd, s1, s2, s3, by rw [sizeLine_eq]; exact s4, k _ _ _ _ h2 m1 R1 (.str _)⟩
end

/-! ### defs that ask that no repr runs -/
structure FnG (P : Program) (w : World) (K : PySem.W.Frag) (mg : Str → Option Value) (base : Heap) (k : Nat) (f : Addr) (fd : FuncData) (ps : List Str) (sp : Sp) : Prop where
  len : ∀ vs H Q E, sp vs H Q E → vs.length = ps.length
  run : ∀ (A : Around) (outer : List Env) (s : Shared) (H : Hp) (args : Args) (us : List Value) (vs : List V) (Q : VK) (E : XK), A.guards = some [] → Room k A → Env0 P w K mg base A outer s H →
    BindsTo s fd args (ps.zip us) → Vals vs us → sp vs H Q E → codeAny (model P w) A (.call (.ref f) args) (CR CX0 outer P w H s Q E) s
section
variable {P : Program} {w : World} {K : PySem.W.Frag} {mg : Str → Option Value} {base : Heap} {x qual : Str} {params : Arguments} {body : List Stmt} {scope : Scope} {f : Addr} {fd : FuncData}
theorem FnOk.toG {k : Nat} {ps : List Str} {sp : Sp} (F : FnOk P w K mg base CX0 k f fd ps sp) : FnG P w K mg base k f fd ps sp :=
  ⟨F.len, fun A outer s H args us vs Q E _ hr e0 hb hv hs => F.run A outer s H args us vs Q E hr e0 hb hv hs⟩
theorem fnG_of {N ps : List Str} {k : Nat} {sp : Sp} (Fn : FunD K x qual params body scope [] [] f fd) (S : FnScope N ps scope) (len : ∀ vs H Q E, sp vs H Q E → vs.length = ps.length)
    (hb : ∀ (cdv : Value) (A : Around) (outer : List Env) (s : Shared) (H : Hp) (vs : List V) (Q : VK) (E : XK), (A.deeper (envOfC qual scope s.heap.objs.size f cdv)).guards = some [] → Room k (A.deeper (envOfC qual scope s.heap.objs.size f cdv)) → sp vs H Q E →
      ∃ t, PSs (cxOf CX0 P w K mg base N qual scope f cdv A outer s H E) body t ∧ t { nx := fun _ H' => Q .non H', rt := Q } (L2.start N vs) H) : FnG P w K mg base (k + 1) f fd ps sp := by
  obtain ⟨oc, od, dV, kV, doc, pm, an, cdv, ct, osl, rfl, lk, code, _, _⟩ := Fn.ex
  refine ⟨len, fun A outer s H args us vs Q E gd room e0 bd rel want => ?_⟩
  have vl := len _ _ _ _ want
  have there : ∀ b o, base.get? b = some o → s.heap.get? b = some o := fun b o e => (e0.bs b o e).1
  have inK : K.In s.heap := e0.mod.kin.keeps there
  have names : ∀ y ∈ ps.zip us, scope.names.lookup y.1 = some .local ∨ (scope.names.lookup y.1 = some .cell ∧ ((cellsFrom (s.heap.objs.size + 1) scope.names []).lookup y.1).isSome = true) := by
    rintro ⟨y, v⟩ hy
    refine (S.par y (List.of_mem_zip hy).1).imp id fun q => ⟨q, ?_⟩
    exact PySem.W.cellsFrom_some _ _ _ (.inl q)
  refine codeAny_call_function room.depth (inK _ _ lk) rfl S.co S.gen rfl (PySem.W.codeRec_of inK code) (bd _ _ _ _ ?_)
  refine wpAny_newFunctionEnv_cells S.kind names fun env ee s1 st => ?_
  subst ee
  refine ⟨(e0.mod.nolimit.keeps there).keeps st.toInCall.keep, codeAny_func ?_⟩
  have I := inv_start (CX := CX0) (P := P) (w := w) (K := K) (mg := mg) (base := base) (E := E) S room.hd e0 vl rel st
  obtain ⟨t, ht, start⟩ := hb cdv A outer s H vs Q E gd (room.deeper _) want
  refine wpAny_mono (ht.run [] s1 (L2.start N vs) H _ I start) (fun fl s' z => ?_) fun e s' z => z
  cases fl with
  | ret u =>
    obtain ⟨v, σ', H', J, rv, q⟩ := z
    exact (⟨v, H', J.os, J.bare, J.base, J.hok, rv, q⟩ : CE outer P w H s Q u s')
  | next =>
    obtain ⟨σ', H', J, q⟩ := z
    exact (⟨.non, H', J.os, J.bare, J.base, J.hok, rfl, q⟩ : CE outer P w H s Q Value.none s')
  | brk => exact (let ⟨_, _, _, q⟩ := z; False.elim q)
  | cont => exact (let ⟨_, _, _, q⟩ := z; False.elim q)
theorem okDG {N ps : List Str} {k n : Nat} {m : Bool} {F : DF} {t : DTS} (Fn : FunD K x qual params body scope [] [] f fd) (S : FnScope N ps scope) (hn : ps.length = n)
    (hb : ∀ (cdv : Value) (A : Around) (outer : List Env) (s : Shared) (H : Hp) (E : XK), (A.deeper (envOfC qual scope s.heap.objs.size f cdv)).guards = some [] → Room k (A.deeper (envOfC qual scope s.heap.objs.size f cdv)) →
      DSs (cxOf CX0 P w K mg base N qual scope f cdv A outer s H E).nox body t)
    (hF : ∀ ds q a, ds.length = n → F ds q → t (endsD m a q) (startD m a N.length ds)) : FnG P w K mg base (k + 1) f fd ps (spD m n F) :=
  fnG_of Fn S (fun vs H Q E h => h.1.trans hn.symm) fun cdv A outer s H vs Q E gd hr want => ⟨upS t, PSs.nox (hb cdv A outer s H E gd hr), spD_up S hn hF want⟩
end
section
variable {X : Cx} {a b c e : Expr} {es : List Expr} {ta tb tc : DT} {t : DTA} {pos : Pos} {x : Str} {p : Pos} {k n : Nat} {f : Addr} {fd : FuncData} {ps : List Str} {F : DF}
theorem pe_callG {sp : Sp} {tr : TA} (F : FnG X.prog X.w X.K X.mg X.base k f fd ps sp) (gd : X.A.guards = some []) (hr : Room k X.A) (hg : Gl X x) (hm : X.mg x = some (.ref f)) (hk : PySem.W.keepIn X.K (.ref f) = true) (hb : Binds X.K fd ps [])
    (ha : PA X (e :: es) tr) (hdb : (x == ("__debug__" : Str)) = false) (he : starEach (e :: es) X.env = (false, eval e X.env) :: starEach es X.env) (hpl : (backTo pos (starEach es X.env)).any (·.1) = false) :
    PE X (.Call (.Name x p) (e :: es) [] pos) (tCall sp [] E0 tr) := by
  refine ⟨fun pins s σ H Q I h => wpAny_Call_Name_kw (ld_glob I hg hm ?_ hdb)⟩
  refine PySem.W.callWith_K (h₀ := X.base) I.ok.mod.kin hk (thn (ha.run pos pins s σ H _ I h) fun us s1 ⟨vs, H1, J, rel, want⟩ => ⟨J.kIn, ?_⟩) he hpl
  have hl : us.length = ps.length := by
    have := F.len _ _ _ _ want
    rw [List.append_nil] at this
    rw [← rel.length, this]
  dsimp only at want
  rw [List.append_nil] at want
  have bd := hb s1 us J.kIn (by rw [List.append_nil]; exact hl)
  rw [List.append_nil] at bd
  refine wpAny_call (codeAny_mono (F.run X.A X.stack s1 H1 ⟨us, []⟩ us vs Q E0 gd hr J.env0 bd rel want) fun r s' z => ?_)
  match r, z with
  | .error e, z => exact pass0 pins σ H1 s1 e s' J z
  | .ok (.ret u), z => exact J.after z
  | .ok .next, z => exact False.elim z
  | .ok .brk, z => exact False.elim z
  | .ok .cont, z => exact False.elim z
theorem do_callG (G : FnG X.prog X.w X.K X.mg X.base k f fd ps (spD false n F)) (gd : X.A.guards = some []) (hr : Room k X.A) (hg : Gl X x) (hm : X.mg x = some (.ref f)) (hk : PySem.W.keepIn X.K (.ref f) = true) (hb : Binds X.K fd ps [])
    (ha : DA X (e :: es) t) (hdb : (x == ("__debug__" : Str)) = false := by decide) (he : starEach (e :: es) X.env = (false, eval e X.env) :: starEach es X.env := by rfl) (hpl : (backTo pos (starEach es X.env)).any (·.1) = false := by rfl) :
    DO X (.Call (.Name x p) (e :: es) [] pos) (dCall n F t) := PE.imp (pe_callG G gd hr hg hm hk hb ha hdb he hpl) fun _ _ _ h => upCall h
theorem do_callMG (G : FnG X.prog X.w X.K X.mg X.base k f fd ps (spD true n F)) (gd : X.A.guards = some []) (hr : Room k X.A) (hg : Gl X x) (hm : X.mg x = some (.ref f)) (hk : PySem.W.keepIn X.K (.ref f) = true) (hb : Binds X.K fd ps [])
    (ha : DA X (e :: es) t) (hdb : (x == ("__debug__" : Str)) = false := by decide) (he : starEach (e :: es) X.env = (false, eval e X.env) :: starEach es X.env := by rfl) (hpl : (backTo pos (starEach es X.env)).any (·.1) = false := by rfl) :
    DO X (.Call (.Name x p) (e :: es) [] pos) (dCallM n F t) := PE.imp (pe_callG G gd hr hg hm hk hb ha hdb he hpl) fun _ _ _ h => upCallM h
end

/-! ### f(b = .., a = ..): two keywords, turned round; f(a = ..) -/
section
variable {X : Cx} {e : Expr} {ta : DT} {t : DTA} {kws : List Keyword} {pos kpos p : Pos} {nm : Option Str} {x x1 x2 : Str} {k : Nat} {f : Addr} {fd : FuncData} {F : DF}
abbrev DK (X : Cx) (kws : List Keyword) (t : DTA) : Prop := PK X kws (upA t)
theorem dk_nil : DK X [] dNil := ⟨fun pos pins s σ H Q I ⟨B, ρ, q, R, t, k⟩ => pk_nil.run pos pins s σ H Q I (k _ _ _ _ t .refl R .nil)⟩
theorem PK.imp {t t' : TA} (h : PK X kws t) (i : ∀ σ H Q, t' σ H Q → t σ H Q) : PK X kws t' := ⟨fun pos pins s σ H Q I hq => h.run pos pins s σ H Q I (i σ H Q hq)⟩
theorem dk_cons (ha : DO X e ta) (hr : DK X kws t) : DK X (⟨nm, e, kpos⟩ :: kws) (dCons ta t) := PK.imp (pk_cons ha hr) fun σ H Q ⟨B, ρ, q, R, t, k⟩ => by
  refine ⟨B, ρ, _, R, t, fun o ρ1 v H1 t1 m1 R1 i1 => ⟨B, ρ1, _, R1, t1, fun os ρ2 vs H2 t2 m2 R2 i2 => ?_⟩⟩
  exact k _ _ _ _ t2 (m1.trans m2) R2 (.cons (i1.adv m2) i2)
theorem pe_kws {sp : Sp} {tr : TA} {ps ks : List Str} {g : List Value → List Value} {gV : List V → List V} (G : FnOk X.prog X.w X.K X.mg X.base CX0 k f fd ps sp) (hr : Room k X.A) (hg : Gl X x) (hm : X.mg x = some (.ref f)) (hk : PySem.W.keepIn X.K (.ref f) = true)
    (hb : KBn X.K fd ps 0 ks (fun _ ws => g ws) (fun _ zs => gV zs)) (hkw : PK X kws tr) (hall : (backToKw pos (keywordEach kws X.env)).all (·.1.isSome) = true) (hks : (backToKw pos (keywordEach kws X.env)).filterMap (·.1) = ks)
    (hdb : (x == ("__debug__" : Str)) = false) (hpl : ((backTo pos (starEach [] X.env)).any (·.1) || (backToKw pos (keywordEach kws X.env)).any (·.1.isNone)) = false) :
    PE X (.Call (.Name x p) [] kws pos) (fun σ H Q => tr σ H fun zs H1 => zs.length = ks.length ∧ sp (gV zs) H1 Q E0) := by
  refine ⟨fun pins s σ H Q I h => wpAny_Call_Name_kw (ld_glob I hg hm ?_ hdb)⟩
  refine PySem.W.callWith_KW0 (h₀ := X.base) I.ok.mod.kin hk hall (thn (hkw.run pos pins s σ H _ I h) fun ws s1 ⟨zs, H1, J, rel, zl, want⟩ => ⟨J.kIn, ?_⟩) hpl
  rw [hks]
  exact run_fnN (us := []) (vs := []) G hr hb pass0 J .nil rel rfl zl want
/-- the keywords' data, turned round -/
def dKw2 (F : DF) (t : DTA) : DT := fun ρ q => t ρ fun os ρ1 => os.length = 2 ∧ rdAllX os ρ1 fun ds => F ds.reverse fun d _ => (flat d = true ∨ noOwn ρ1 os = true) ∧ q (.vl d) ρ1
theorem IsAll.rev {O : Addr → Prop} {H : Hp} {vs : List V} {ds : List PyData} (h : IsAll O H vs ds) : IsAll O H vs.reverse ds.reverse := h.reverse
theorem do_kw2 {ps : List Str} (G : FnOk X.prog X.w X.K X.mg X.base CX0 k f fd ps (spD false 2 F)) (hr : Room k X.A) (hg : Gl X x) (hm : X.mg x = some (.ref f)) (hk : PySem.W.keepIn X.K (.ref f) = true)
    (hb : KBn X.K fd ps 0 [x1, x2] (fun _ ws => ws.reverse) (fun _ zs => zs.reverse)) (hkw : DK X kws t) (hall : (backToKw pos (keywordEach kws X.env)).all (·.1.isSome) = true := by rfl) (hks : (backToKw pos (keywordEach kws X.env)).filterMap (·.1) = [x1, x2] := by rfl)
    (hdb : (x == ("__debug__" : Str)) = false := by decide) (hpl : ((backTo pos (starEach [] X.env)).any (·.1) || (backToKw pos (keywordEach kws X.env)).any (·.1.isNone)) = false := by rfl) :
    DO X (.Call (.Name x p) [] kws pos) (dKw2 F t) := PE.imp (pe_kws G hr hg hm hk hb hkw hall hks hdb hpl) fun σ H Q ⟨B, ρ, q, R, t, k⟩ => by
  refine ⟨B, ρ, _, R, t, fun os ρ1 vs H1 t1 m1 R1 i1 => ?_⟩
  obtain ⟨hl, t1⟩ := t1
  obtain ⟨ds, h1, is⟩ := OAll.args (P := ownArgs ρ1 os) R1 (fun o ho b z => ⟨o, ho, z⟩) i1 t1
  refine ⟨(Paired.length i1).trans hl, by rw [List.length_reverse, Paired.length i1, hl], fun b => OW B ρ1 b ∧ ¬ ownArgs ρ1 os b, ds.reverse, _, fun a z => R1.ow z.1, h1, ?_⟩
  rw [if_neg Bool.false_ne_true]
  refine ⟨is.reverse, fun d e v H' hq hs hv => k _ _ _ _ hq.2 (m1.trans (.same hs)) (R1.same hs) ?_⟩
  rcases hq.1 with hf | hf
  · exact hv.flat_any hf
  · exact hv.mono (Adv.sub fun b z => ⟨z, noOwn_not hf b⟩)
theorem rel_rev : ∀ {vs : List V} {us : List Value}, Vals vs us → Vals vs.reverse us.reverse
  | _, _, .nil => .nil
  | _, _, .cons r t => by
    rw [List.reverse_cons, List.reverse_cons]
    exact (rel_rev t).append (.cons r .nil)
theorem kbinds2 {K : PySem.W.Frag} {qual : Str} {params : Arguments} {body : List Stmt} {scope : Scope} {kws : List (Str × V)} {p1 p2 : Str} (Fn : FunD K x qual params body scope [] kws f fd)
    (h : ∀ (kV doc pm : Value) (an : Option Addr) (cdv ct a b : Value), bindArgs (PySem.W.fnOf x qual params body scope .none kV doc pm an cdv ct) ⟨[], [(p2, a), (p1, b)]⟩ = pure [(p1, b), (p2, a)]) :
    KBn K fd [p1, p2] 0 [p2, p1] (fun _ ws => ws.reverse) (fun _ zs => zs.reverse) := by
  obtain ⟨oc, od, dV, kV, doc, pm, an, cdv, ct, osl, rfl, lk, code, hD, _⟩ := Fn.ex
  rcases hD with ⟨_, rfl⟩ | ⟨e, _⟩
  · refine ⟨fun s us ws _ hu hl => ?_, fun _ r => rel_rev r⟩
    obtain rfl := List.eq_nil_of_length_eq_zero hu
    obtain ⟨a, b, rfl⟩ : ∃ a b, ws = [a, b] := by
      match ws with
      | [] => simp at hl
      | [a] => simp at hl
      | [a, b] => exact ⟨a, b, rfl⟩
      | a :: b :: c :: r => simp at hl
    exact .of_eq (h kV doc pm an cdv ct a b)
  · exact absurd rfl e
end

/-! ### a law's end -/
/-- the def of a law keeps its promise at the script, the def asking that no repr runs -/
theorem law_runs {P : Program} {w : World} {K : PySem.W.Frag} {mg mb : Str → Option Value} {k : Nat} {fa a : Addr} {fd : FuncData} {x : Str} {sp : Sp} {s1 : Shared} {vs : List Value} {ns : List Int}
    (inK : K.In s1.heap) (gl : s1.heap.Ns mainGlobals mg) (bl : s1.heap.Ns builtinsNs mb) (blt : ∀ x : Str, x ≠ "__name__" → mb x = bootBuiltins x) (lim : s1.heap.NoLimit) (gs : s1.gens = #[])
    (at_ : s1.heap.get? a = some { cls := .type "list", data := .seq vs.toArray }) (intv : IntsAre vs ns) (small : ns.length ≤ sizeLine) (room : Room k callerA)
    (F : ∀ base : Heap, K.In base → base.Ns mainGlobals mg → FnG P w K mg base k fa fd [x] sp) (bind : ∀ (s : Shared) (u : Value), BindsTo s fd ⟨[u], []⟩ [(x, u)])
    (keeps : ∀ H : Hp, L2.Only H → SqL K H a (ns.map V.int) → sp [.ref a] H (fun v _ => v = .bl true) fun _ _ _ => False) :
    codeAny (model P w) callerA (.call (.ref fa) ⟨[.ref a], []⟩) (fun r s' => r = .ok (.ret (.bool true)) ∧ OldK s1.heap s'.heap ∧ s'.os = s1.os ∧ AllBare s'.gens) s1 := by
  have rel := vals_ints intv
  -- the abstract heap: the script is tracked, or it is one of the module's own objects
  obtain ⟨H, only, seq, ok, here, out⟩ : ∃ H : Hp, L2.Only H ∧ SqL K H a (ns.map V.int) ∧ HOk P w H s1.heap ∧ (∀ b, H b ≠ none → b = a) ∧ (H a ≠ none → K.lookup a = none) := by
    by_cases kl : ∃ o, K.lookup a = some o
    · obtain ⟨o, kl⟩ := kl
      have eo := inK a o kl
      rw [at_] at eo
      cases eo
      exact ⟨fun _ => none, fun _ => .inl rfl, .inr ⟨_, vs.toArray, _, kl, rfl, rfl, rfl, by rw [List.size_toArray, intv.length]; exact small, by simpa using rel⟩, fun b u e => absurd e (by simp), fun b e => absurd rfl e, fun e => absurd rfl e⟩
    · have kn : K.lookup a = none := by
        cases q : K.lookup a with
        | none => rfl
        | some o => exact absurd ⟨o, q⟩ kl
      refine ⟨upd (fun _ => none) a (.frz { cls := .type "list", data := .seq vs.toArray } (.lst (ns.map V.int))), fun b => ?_, .inl (.inr ⟨_, upd_same⟩), fun b u e => ?_, fun b e => ?_, fun _ => kn⟩
      · by_cases q : b = a
        · subst q; exact .inr ⟨_, _, upd_same⟩
        · exact .inl (upd_ne q)
      · by_cases q : b = a
        · subst q
          rw [upd_same] at e
          cases e
          exact ⟨at_, by rw [List.length_map]; exact small, vs, _, rel, at_⟩
        · rw [upd_ne q] at e
          cases e
      · refine Classical.byContradiction fun q => e ?_
        rw [upd_ne q]
  have off : ∀ {b : Addr} {o : Obj}, s1.heap.get? b = some o → b ≠ a → (hidT s1.heap H).get? b = some o := fun {b o} e ne1 => hidT_get e (Classical.byContradiction fun q => ne1 (here b q))
  have ns_ : ∀ {b : Addr} {m : Str → Option Value}, s1.heap.Ns b m → (hidT s1.heap H).Ns b m := fun {b m} ⟨o, es, ep, e, d, r⟩ => by
    refine ⟨o, es, ep, off e ?_, d, r⟩
    rintro rfl
    rw [at_] at e
    cases e
    cases d
  have kb : K.In (hidT s1.heap H) := fun b o e => by
    refine hidT_get (inK b o e) (Classical.byContradiction fun q => ?_)
    obtain rfl := here b q
    rw [out q] at e
    cases e
  have lim2 : (hidT s1.heap H).NoLimit := by
    obtain ⟨mc, h1, h2⟩ := lim
    exact ⟨mc, ns_ h1, h2⟩
  have e0 : Env0 P w K mg (hidT s1.heap H) callerA [] s1 H :=
    { frames := rfl, mod := ⟨kb, ns_ gl, ⟨mb, ns_ bl, blt⟩, lim2⟩, bs := fun b o e => of_hidT e, bsz := Nat.le_of_eq (hidT_size _ _), funs := trivial, frf := fun b hb => by simp [frs] at hb, hok := ok, bare := .of_eq gs }
  refine codeAny_mono ((F _ kb (ns_ gl)).run callerA [] s1 H ⟨[.ref a], []⟩ [.ref a] [.ref a] _ _ rfl room e0 (bind s1 (.ref a)) (.cons rfl .nil) (keeps H only seq)) fun r s' z => ?_
  match r, z with
  | .error e, z => exact False.elim z
  | .ok .next, z => exact False.elim z
  | .ok .brk, z => exact False.elim z
  | .ok .cont, z => exact False.elim z
  | .ok (.ret u), z =>
    obtain ⟨v, H', os, bare, un, ok', rv, q⟩ := z
    obtain rfl : v = V.bl true := q
    obtain rfl : u = Value.bool true := rv
    refine ⟨rfl, OldK.of_keep fun b o e => ?_, os, bare⟩
    rcases only b with q | ⟨ob, xs, q⟩
    · exact un.keep b o e q (by intro z; simp [frs] at z) (by simp)
    · obtain ⟨e1, _⟩ := ok b _ q
      obtain ⟨e2, _⟩ := ok' b _ (un.frzs b ob _ q)
      rw [e] at e1
      cases e1
      exact e2
theorem walk_ofG {l : PySem.W.OpenLaw} {n k : Nat} {q : Program} {loose : List Str} {XP : (Str → Option Value) → Heap → Prop} {YP : World → Heap → Prop} {d : DefRec} {x : Str}
    (most : l.most = some n) (small : n ≤ sizeLine) (nodef : d.params.defaults = []) (room : Room k callerA)
    (F : ∀ (w : World) (mg : Str → Option Value) (fa : Addr) (h : Heap), YP w h → h.Ns mainGlobals mg → mg d.name = some (.ref fa) →
      ∃ (K : PySem.W.Frag) (fd : FuncData) (sp : Sp), K.In h ∧ (∀ (s : Shared) (u : Value), BindsTo s fd ⟨[u], []⟩ [(x, u)]) ∧
        (∀ (H : Hp) (a : Addr) (ns : List Int), ns.length ≤ n → L2.Only H → SqL K H a (ns.map V.int) → sp [.ref a] H (fun v _ => v = .bl true) fun _ _ _ => False) ∧
        ∀ base : Heap, K.In base → base.Ns mainGlobals mg → FnG l.prog w K mg base k fa fd [x] sp) :
    PySem.W.WalkO q loose XP YP l.row.toRowW d [] (fun f vs => PySem.call f vs) := by
  refine Att.attach_call most nodef fun w s0 s1 mg mb fa o pm cd doc a vs ns G Y _ _ _ glob hobj hintv hlen hgens => ?_
  obtain ⟨K, fd, sp, inK, bind, keeps, prom⟩ := F w mg fa _ Y G.T.g glob
  exact law_runs inK G.T.g G.T.b G.T.builtins G.T.nolimit hgens hobj hintv (Nat.le_trans hlen small) room prom bind fun H only seq => keeps H a ns hlen only seq
end DL
namespace DL
open PySem PySem.Spec PyProof.Rows L2

/-! ### what a call returns is new where no list of it is as an argument's list -/
mutual
/-- the lists and dicts within -/
def nodes : PyData → List PyData
  | .none => []
  | .bool _ => []
  | .int _ => []
  | .str _ => []
  | .list xs => .list xs :: nodesL xs
  | .tuple xs => nodesL xs
  | .dict kvs => .dict kvs :: nodesK kvs
def nodesL : List PyData → List PyData
  | [] => []
  | x :: xs => nodes x ++ nodesL xs
def nodesK : List (PyData × PyData) → List PyData
  | [] => []
  | (_, v) :: r => nodes v ++ nodesK r
end
theorem rd_dK {H : Hp} {a : Addr} {u v : List (Key × V)} (h : Rd H a (.dK u)) (h' : Rd H a (.dK v)) : u = v := by
  rcases h with h | ⟨o, h⟩ <;> rcases h' with h' | ⟨o', h'⟩ <;> rw [h] at h' <;> cases h' <;> rfl
theorem rd_dT {H : Hp} {a : Addr} {u v : List (List Key × V)} (h : Rd H a (.dT u)) (h' : Rd H a (.dT v)) : u = v := by
  rcases h with h | ⟨o, h⟩ <;> rcases h' with h' | ⟨o', h'⟩ <;> rw [h] at h' <;> cases h' <;> rfl
theorem rd_KT {H : Hp} {a : Addr} {u : List (Key × V)} {v : List (List Key × V)} (h : Rd H a (.dK u)) (h' : Rd H a (.dT v)) : False := by
  rcases h with h | ⟨o, h⟩ <;> rcases h' with h' | ⟨o', h'⟩ <;> rw [h] at h' <;> cases h'
theorem rd_lK {H : Hp} {a : Addr} {xs : List V} {u : List (Key × V)} (h : H a = some (.lst xs)) (h' : Rd H a (.dK u)) : False := by
  rcases h' with h' | ⟨o', h'⟩ <;> rw [h] at h' <;> cases h'
theorem rd_lT {H : Hp} {a : Addr} {xs : List V} {u : List (List Key × V)} (h : H a = some (.lst xs)) (h' : Rd H a (.dT u)) : False := by
  rcases h' with h' | ⟨o', h'⟩ <;> rw [h] at h' <;> cases h'
theorem rd_tK {H : Hp} {a : Addr} {xs : List V} {u : List (Key × V)} (h : H a = some (.tup xs)) (h' : Rd H a (.dK u)) : False := by
  rcases h' with h' | ⟨o', h'⟩ <;> rw [h] at h' <;> cases h'
theorem rd_tT {H : Hp} {a : Addr} {xs : List V} {u : List (List Key × V)} (h : H a = some (.tup xs)) (h' : Rd H a (.dT u)) : False := by
  rcases h' with h' | ⟨o', h'⟩ <;> rw [h] at h' <;> cases h'
/-- a value tells one data -/
theorem Is.det {O O' : Addr → Prop} {H : Hp} {v : V} {d : PyData} (h : Is O H v d) : ∀ {e : PyData}, Is O' H v e → d = e := by
  induction h using Is.rec (motive_2 := fun xs ds _ => ∀ {es : List PyData}, IsAll O' H xs es → ds = es) (motive_3 := fun xs ds _ => ∀ {es : List (PyData × PyData)}, IsK O' H xs es → ds = es) (motive_4 := fun xs ds _ => ∀ {es : List (PyData × PyData)}, IsT O' H xs es → ds = es) with
  | non => intro e h; cases h; rfl
  | bl b => intro e h; cases h; rfl
  | int i => intro e h; cases h; rfl
  | str x => intro e h; cases h; rfl
  | lst n r all ih =>
    intro e h
    cases h with
    | lst n' r' all' =>
      rw [r] at r'
      cases r'
      rw [ih all']
    | tup r' all' => rw [r] at r'; cases r'
    | dK n' r' all' => exact (rd_lK r r').elim
    | dT n' r' all' => exact (rd_lT r r').elim
  | tup r all ih =>
    intro e h
    cases h with
    | lst n' r' all' => rw [r] at r'; cases r'
    | tup r' all' =>
      rw [r] at r'
      cases r'
      rw [ih all']
    | dK n' r' all' => exact (rd_tK r r').elim
    | dT n' r' all' => exact (rd_tT r r').elim
  | dK n r all ih =>
    intro e h
    cases h with
    | lst n' r' all' => exact (rd_lK r' r).elim
    | tup r' all' => exact (rd_tK r' r).elim
    | dK n' r' all' =>
      obtain rfl := rd_dK r r'
      rw [ih all']
    | dT n' r' all' => exact (rd_KT r r').elim
  | dT n r all ih =>
    intro e h
    cases h with
    | lst n' r' all' => exact (rd_lT r' r).elim
    | tup r' all' => exact (rd_tT r' r).elim
    | dK n' r' all' => exact (rd_KT r' r).elim
    | dT n' r' all' =>
      obtain rfl := rd_dT r r'
      rw [ih all']
  | nil => first | (rename_i h; cases h; rfl) | (intro es h; cases h; rfl)
  | cons a b iha ihb =>
    rename_i h
    cases h with
    | cons x y => rw [iha x, ihb y]
  | nilK => first | (rename_i h; cases h; rfl) | (intro es h; cases h; rfl)
  | consK a b iha ihb =>
    rename_i h
    cases h with
    | consK x y => rw [iha x, ihb y]
  | nilT => first | (rename_i h; cases h; rfl) | (intro es h; cases h; rfl)
  | consT a b iha ihb =>
    rename_i h
    cases h with
    | consT x y => rw [iha x, ihb y]
/-- the same data, the own containers told anew by the lists and dicts that it has -/
theorem Is.reO {O O' : Addr → Prop} {H : Hp} {v : V} {d : PyData} (h : Is O H v d) : (∀ b l, l ∈ nodes d → Is O H (.ref b) l → ¬ O' b) → Is O' H v d := by
  induction h using Is.rec (motive_2 := fun xs ds _ => (∀ b l, l ∈ nodesL ds → Is O H (.ref b) l → ¬ O' b) → IsAll O' H xs ds) (motive_3 := fun xs ds _ => (∀ b l, l ∈ nodesK ds → Is O H (.ref b) l → ¬ O' b) → IsK O' H xs ds) (motive_4 := fun xs ds _ => (∀ b l, l ∈ nodesK ds → Is O H (.ref b) l → ¬ O' b) → IsT O' H xs ds) with
  | non => intro _; exact .non
  | bl b => intro _; exact .bl b
  | int i => intro _; exact .int i
  | str x => intro _; exact .str x
  | lst n r all ih =>
    intro h
    simp only [nodes] at h
    exact .lst (h _ _ (List.mem_cons_self ..) (.lst n r all)) r (ih fun b l m i => h b l (List.mem_cons_of_mem _ m) i)
  | tup r all ih =>
    intro h
    simp only [nodes] at h
    exact .tup r (ih h)
  | dK n r all ih =>
    intro h
    simp only [nodes] at h
    exact .dK (h _ _ (List.mem_cons_self ..) (.dK n r all)) r (ih fun b l m i => h b l (List.mem_cons_of_mem _ m) i)
  | dT n r all ih =>
    intro h
    simp only [nodes] at h
    exact .dT (h _ _ (List.mem_cons_self ..) (.dT n r all)) r (ih fun b l m i => h b l (List.mem_cons_of_mem _ (by simp only [nodesK, nodes, List.nil_append]; exact m)) i)
  | nil => first | exact .nil | exact fun _ => .nil
  | cons a b iha ihb =>
    rename_i h
    simp only [nodesL, List.mem_append] at h
    exact .cons (iha fun b l m i => h b l (.inl m) i) (ihb fun b l m i => h b l (.inr m) i)
  | nilK => first | exact .nilK | exact fun _ => .nilK
  | consK a b iha ihb =>
    rename_i h
    simp only [nodesK, List.mem_append] at h
    exact .consK (iha fun b l m i => h b l (.inl m) i) (ihb fun b l m i => h b l (.inr m) i)
  | nilT => first | exact .nilT | exact fun _ => .nilT
  | consT a b iha ihb =>
    rename_i h
    simp only [nodesK, List.mem_append] at h
    exact .consT (iha fun b l m i => h b l (.inl m) i) (ihb fun b l m i => h b l (.inr m) i)
theorem IsAll.reO {O O' : Addr → Prop} {H : Hp} : ∀ {vs : List V} {ds : List PyData}, IsAll O H vs ds → (∀ b l, l ∈ nodesL ds → Is O H (.ref b) l → ¬ O' b) → IsAll O' H vs ds
  | _, _, .nil, _ => .nil
  | _, _, .cons a t, h => by
    simp only [nodesL, List.mem_append] at h
    exact .cons (a.reO fun b l m i => h b l (.inl m) i) (t.reO fun b l m i => h b l (.inr m) i)
mutual
theorem no_tup : ∀ (d : PyData) (xs : List PyData), PyData.tuple xs ∉ nodes d
  | .none, _ => by simp [nodes]
  | .bool _, _ => by simp [nodes]
  | .int _, _ => by simp [nodes]
  | .str _, _ => by simp [nodes]
  | .list ds, xs => by
    intro h
    simp only [nodes] at h
    rcases List.mem_cons.mp h with e | e
    · cases e
    · exact no_tupL ds xs e
  | .tuple ds, xs => by
    simp only [nodes]
    exact no_tupL ds xs
  | .dict kvs, xs => by
    intro h
    simp only [nodes] at h
    rcases List.mem_cons.mp h with e | e
    · cases e
    · exact no_tupK kvs xs e
theorem no_tupL : ∀ (ds xs : List PyData), PyData.tuple xs ∉ nodesL ds
  | [], _ => by simp [nodesL]
  | d :: ds, xs => by
    simp only [nodesL, List.mem_append, not_or]
    exact ⟨no_tup d xs, no_tupL ds xs⟩
theorem no_tupK : ∀ (ds : List (PyData × PyData)) (xs : List PyData), PyData.tuple xs ∉ nodesK ds
  | [], _ => by simp [nodesK]
  | (_, d) :: ds, xs => by
    simp only [nodesK, List.mem_append, not_or]
    exact ⟨no_tup d xs, no_tupK ds xs⟩
end
/-- no list and no dict of d is one of ds -/
def Apart (ds : List PyData) (d : PyData) : Prop := ∀ l, l ∈ nodesL ds → l ∉ nodes d
/-- all that is tracked, but what the data ds have -/
def allBut (H : Hp) (ds : List PyData) (b : Addr) : Prop := (∃ o, H b = some o ∧ isTup o = false) ∧ ¬ ∃ O l, l ∈ nodesL ds ∧ Is O H (.ref b) l
theorem new_of {H H' : Hp} {v : V} {d : PyData} {ds : List PyData} (s : Same H H') (is : Is (allBut H ds) H' v d) (ap : Apart ds d) : Is (fun b => H b ≠ none) H' v d := by
  refine is.reO fun b l m i q => ?_
  have t : ∃ o, H' b = some o ∧ isTup o = false := by
    cases i with
    | lst n r _ => exact ⟨_, r, rfl⟩
    | tup r _ =>
      exfalso
      exact no_tup _ _ m
    | dK n r _ => rcases r with r | ⟨o, r⟩ <;> exact ⟨_, r, rfl⟩
    | dT n r _ => rcases r with r | ⟨o, r⟩ <;> exact ⟨_, r, rfl⟩
  have nO : ¬ allBut H ds b := by
    cases i with
    | lst n r _ => exact n
    | tup r _ =>
      obtain ⟨o, h1, h2⟩ := t
      rw [r] at h1; cases h1; cases h2
    | dK n r _ => exact n
    | dT n r _ => exact n
  cases hb : H b with
  | none => exact q hb
  | some o =>
    obtain ⟨o', h1, h2⟩ := t
    have h3 := s b o hb
    rw [h1] at h3
    cases h3
    refine nO ⟨⟨_, hb, h2⟩, fun ⟨O, l', m', i'⟩ => ?_⟩
    have e := (i'.mono (.same s)).det i
    subst e
    exact ap _ m' m

section
variable {X : Cx} {a b c e : Expr} {es : List Expr} {ta tb tc : DT} {t : DTA} {pos : Pos} {x : Str} {p : Pos} {k n : Nat} {f : Addr} {fd : FuncData} {ps : List Str} {F : DF}
/-- new data, all its lists and dicts its own; a list without lists within is an own one -/
def putN (i : Nat) (d : PyData) (ρ : DEnv) (k : DEnv → Prop) : Prop :=
  match d with
  | .list ds => if flats ds = true then ∀ p, k (ρ.set i (some (.own p d))) else ∀ P, k (ρ.set i (some (.deep P d)))
  | _ => if flat d = true then k (ρ.set i (some (.val d))) else ∀ P, k (ρ.set i (some (.deep P d)))
theorem flats_any {O O' : Addr → Prop} {H : Hp} : ∀ {vs : List V} {ds : List PyData}, IsAll O H vs ds → flats ds = true → IsAll O' H vs ds
  | _, _, .nil, _ => .nil
  | _, _, .cons a t, h => by
    simp only [flats, Bool.and_eq_true] at h
    exact .cons (a.flat_any h.1) (flats_any t h.2)
theorem putN_rep {B : Bs} {ρ : DEnv} {σ : L2.St} {H H' : Hp} {i : Nat} {v : V} {d : PyData} {K : DEnv → Prop} (R : Rep B ρ σ H) (s : Same H H') (is : Is (fun b => H b ≠ none) H' v d) (h : putN i d ρ K) :
    ∃ ρ', K ρ' ∧ Rep B ρ' (σ.set i (some v)) H' ∧ Adv (OW B ρ) (OW B ρ') H H' := by
  have deep : (∀ P, K (ρ.set i (some (.deep P d)))) → ∃ ρ', K ρ' ∧ Rep B ρ' (σ.set i (some v)) H' ∧ Adv (OW B ρ) (OW B ρ') H H' := fun h => by
    obtain ⟨R1, m1⟩ := R.freshen (P := fun b => H b = none ∧ ∃ o, H' b = some o ∧ isTup o = false) s fun p q => q
    have is2 : Is (fun b => ¬ (H b = none ∧ ∃ o, H' b = some o ∧ isTup o = false)) H' v d := by
      refine is.reO fun b l m i q => ?_
      refine q ?_
      cases i with
      | lst n r _ => exact ⟨Classical.byContradiction n, _, r, rfl⟩
      | tup r _ => exact (no_tup _ _ m).elim
      | dK n r _ => exact ⟨Classical.byContradiction n, by rcases r with r | ⟨o, r⟩ <;> exact ⟨_, r, rfl⟩⟩
      | dT n r _ => exact ⟨Classical.byContradiction n, by rcases r with r | ⟨o, r⟩ <;> exact ⟨_, r, rfl⟩⟩
    obtain ⟨R2, m2⟩ := R1.adoptC (i := i) (v := v) (c := .deep (fun b => H b = none ∧ ∃ o, H' b = some o ∧ isTup o = false) d) (fun a z => z) is2 fun q z => R.entry z.1
    exact ⟨_, h _, R2, m1.trans m2⟩
  unfold putN at h
  split at h
  · rename_i ds
    by_cases fl : flats ds = true
    · rw [if_pos fl] at h
      cases is with
      | @lst q xs _ n r all =>
        have hn : H q = none := Classical.byContradiction n
        obtain ⟨R1, m1⟩ := R.freshen (P := (· = q)) s fun b e => by
          cases (show b = q from e)
          exact ⟨hn, _, r, rfl⟩
        obtain ⟨f1, f2⟩ := R.entry hn
        obtain ⟨R2, m2⟩ := R1.adopt (i := i) (d := .list ds) ⟨_, r, .lst (flats_any all fl)⟩ f1 f2
        exact ⟨_, h q, R2, m1.trans m2⟩
    · rw [if_neg fl] at h
      exact deep h
  · by_cases fl : flat d = true
    · rw [if_pos fl] at h
      obtain ⟨R2, m2⟩ := (R.same s).setVal (i := i) (is.flat_any (O' := OW B ρ) fl)
      exact ⟨_, h, R2, (Adv.same s).trans m2⟩
    · rw [if_neg fl] at h
      exact deep h
/-- x = f(..), what is told is new -/
def sSetN (i n : Nat) (F : DF) (t : DTA) : DTS := fun E ρ => t ρ fun os ρ1 => os.length = n ∧ rdAllX os ρ1 fun ds => F ds fun d _ => Apart ds d ∧ putN i d ρ1 E.nx
theorem OAll.all {B : Bs} {ρ : DEnv} {σ : L2.St} {H : Hp} (R : Rep B ρ σ H) {vs : List V} {os : List OV} {k : List PyData → Prop} (i : OAll B ρ σ H vs os) (h : rdAllX os ρ k) : ∃ ds, k ds ∧ IsAll (allBut H ds) H vs ds := by
  obtain ⟨ds, h1, is⟩ := OAll.args (P := ownArgs ρ os) R (fun o ho b z => ⟨o, ho, z⟩) i h
  exact ⟨ds, h1, is.reO fun b l m i z => z.2 ⟨_, l, m, i⟩⟩
theorem ds_setN {i : Nat} {y : Str} {pos' spos : Pos} (G : FnOk X.prog X.w X.K X.mg X.base CX0 k f fd ps (spD false n F)) (hr : Room k X.A) (hg : Gl X x) (hm : X.mg x = some (.ref f)) (hk : PySem.W.keepIn X.K (.ref f) = true) (hb : Binds X.K fd ps [])
    (ha : DA X (e :: es) t) (hN : X.N.Nodup) (hi : X.N[i]? = some y) (hy : Loc X.env.scope y) (hdb : (x == ("__debug__" : Str)) = false := by decide) (he : starEach (e :: es) X.env = (false, eval e X.env) :: starEach es X.env := by rfl) (hpl : (backTo pos (starEach es X.env)).any (·.1) = false := by rfl)
    (hs : swapsWith (.Call (.Name x p) (e :: es) [] pos) (some (.Name y pos')) spos.line X.env = pure false := by rfl) (hf : X.fn y = true ∨ X.env.scope.names.lookup y = some .local := by first | exact .inl rfl | exact .inr rfl | assumption) :
    DS X (.Assign [.Name y pos'] (.Call (.Name x p) (e :: es) [] pos) spos) (sSetN i n F t) := PS.imp (ps_set hN hi hy (pe_call G hr hg hm hk hb .nil pass0 ha hdb he hpl) hs hf) fun D σ H ⟨B, ρ, E, R, t, k⟩ => by
  refine ⟨B, ρ, _, R, t, fun os ρ1 vs H1 t1 m1 R1 i1 => ?_⟩
  obtain ⟨hl, t1⟩ := t1
  rw [List.append_nil]
  obtain ⟨ds, h1, is⟩ := OAll.all R1 i1 t1
  refine ⟨by rw [Paired.length i1, hl], allBut H1 ds, ds, _, fun a z => z.1, h1, ?_⟩
  rw [if_neg Bool.false_ne_true]
  refine ⟨is, fun d e v H' hq hs hv => ?_⟩
  obtain ⟨ρ2, h2, R2, m2⟩ := putN_rep R1 hs (new_of hs hv hq.1) hq.2
  exact k.nx _ _ _ h2 (m1.trans m2) R2
/-- a name's containers are no name's -/
theorem Rep.give {B : Bs} {ρ : DEnv} {σ : L2.St} {H : Hp} (R : Rep B ρ σ H) {i : Nat} {c : Cell} (h : ρ[i]? = some (some c)) : Rep (B.more (cellA c)) (ρ.set i none) σ H ∧ Adv (OW B ρ) (OW (B.more (cellA c)) (ρ.set i none)) H H := by
  have sub : ∀ a, OW (B.more (cellA c)) (ρ.set i none) a → OW B ρ a := fun a z => by
    rcases z with (z | z) | z
    · exact .inl z
    · exact .inr ⟨i, c, h, z⟩
    · rcases owns_set z with ⟨_, e, _⟩ | z
      · cases e
      · exact .inr z
  have m := Adv.sub (H := H) sub
  have other : ∀ {j : Nat} {c' : Cell}, (ρ.set i none)[j]? = some (some c') → j ≠ i ∧ ρ[j]? = some (some c') := fun {j c'} e => by
    rcases get_set_cases e with ⟨_, e1, _⟩ | q
    · cases e1
    · exact q
  refine ⟨⟨by rw [List.length_set]; exact R.len, fun a z => ?_, fun j c' e => ?_, fun j c' a e z => ?_, fun j l c1 c2 a e1 e2 z1 z2 => ?_, R.keep⟩, m⟩
  · rcases z with z | z
    · exact R.trk a z
    · exact (R.adr i c a h z).1
  · obtain ⟨v, h1, h2⟩ := R.cel j c' (other e).2
    exact ⟨v, h1, h2.mono m (fun _ _ _ e => e) fun _ _ e _ => e⟩
  · obtain ⟨h1, h2, h3⟩ := R.adr j c' a (other e).2 z
    refine ⟨h1, fun y => y.elim h2 fun y => (other e).1 (R.inj j i c' c a (other e).2 h z y), h3⟩
  · exact R.inj j l c1 c2 a (other e1).2 (other e2).2 z1 z2
/-- x[j].append(e), x told by a call and not looked at again -/
def sDeepApp (i : Nat) (j : Nat) (ta : DT) : DTS := fun E ρ => match ρ[i]? with
  | some (some (.deep P (.tuple ds))) => ∃ l, ds[j]? = some (.list l) ∧ l.length < 16777216 ∧ ta ρ fun o ρ1 => o.tk ρ1 fun d ρ2 => ρ2[i]? = some (some (.deep P (.tuple ds))) ∧ E.nx (ρ2.set i none)
  | _ => False
theorem ds_deepApp {i j : Nat} {kk : Nat} {p1 p2 apos cpos : Pos} (hx : PE X (.Name x p) (tVar i)) (ha : DO X e ta)
    (hbase : attributeBase (.Subscript (.Name x p) (.Constant (.int (j : Nat)) kk p1) p2) "append" X.env (eval (.Subscript (.Name x p) (.Constant (.int (j : Nat)) kk p1) p2) X.env) = eval (.Subscript (.Name x p) (.Constant (.int (j : Nat)) kk p1) p2) X.env := by rfl)
    (hfew : ((backTo cpos (starEach [e] X.env)).all (fun x => !x.1) && (backToKw cpos (keywordEach [] X.env)).all (fun x => x.1.isSome) && decide (([e] : List Expr).length + ([] : List Keyword).length + (if ([] : List Keyword).isEmpty then 0 else 1) < 30)) = true := by rfl)
    (hline : (apos.endLine == cpos.line) = true := by rfl) (hs : starEach [e] X.env = (false, eval e X.env) :: starEach [] X.env := by rfl) (hplain : (backTo cpos (starEach [] X.env)).any (·.1) = false := by rfl)
    (hsw : swapsWith (.Call (.Attribute (.Subscript (.Name x p) (.Constant (.int (j : Nat)) kk p1) p2) "append" apos) [e] [] cpos) none pos.line X.env = pure false := by rfl) (hp : PlainIx (.Constant (.int (j : Nat)) kk p1) := by exact fun _ _ => rfl) :
    DS X (.Expr (.Call (.Attribute (.Subscript (.Name x p) (.Constant (.int (j : Nat)) kk p1) p2) "append" apos) [e] [] cpos) pos) (sDeepApp i j ta) :=
  PS.imp (ps_expr (pe_bm PySem.F.plainAttrs_list PySem.F.slot_list_append PySem.F.type_list_append mt_append (pe_ix ix_seq hx pe_int hp) (pa_cons ha pa_nil hs) hbase hfew hline hs hplain) hsw) fun D σ H ⟨B, ρ, E, R, t, k⟩ => by
  unfold sDeepApp at t
  split at t
  · rename_i P ds h0
    obtain ⟨l, hl, hz, t⟩ := t
    have at_ : ∀ {ρ' : DEnv} {H' : Hp}, ρ'[i]? = some (some (.deep P (.tuple ds))) → Rep B ρ' σ H' → ∃ a xs q ys, σ[i]? = some (some (.ref a)) ∧ H' a = some (.tup xs) ∧ xs[j]? = some (.ref q) ∧ P q ∧ H' q = some (.lst ys) ∧ ys.length = l.length := by
      intro ρ' H' e R'
      obtain ⟨v, h1, h2⟩ := R'.cel i _ e
      obtain ⟨a, xs, rfl, f1, f2⟩ := Is.tup' (show Is (fun b => ¬ P b) H' v (.tuple ds) from h2)
      obtain ⟨w, g1, g2⟩ := f2.get hl
      cases g2 with
      | @lst q ys _ n r all => exact ⟨a, xs, q, ys, h1, f1, g1, Classical.byContradiction n, r, all.length⟩
    obtain ⟨a, xs, q, ys, s1, f1, f2, f3, f4, f5⟩ := at_ h0 R
    refine ⟨_, s1, .inr (.inl ⟨a, xs, (j : Nat), .ref q, rfl, rfl, SqT.of f1, atI_nat f2, ?_⟩)⟩
    · refine ⟨.inl ⟨rfl, ys, SqL.of f4⟩, B, ρ, _, R, t, fun o ρ1 v H1 t1 m1 R1 i1 => ?_⟩
      obtain ⟨d, ρ2, ⟨h2, h3⟩, is, R2, m2⟩ := i1.tk R1 t1
      obtain ⟨a', xs', q', ys', s1', f1', f2', f3', f4', f5'⟩ := at_ h2 R2
      rw [s1] at s1'
      cases s1'
      have e1 : H1 a = some (.tup xs) := m1.1 _ _ f1 (.inr rfl)
      rw [f1'] at e1
      cases e1
      rw [f2] at f2'
      cases f2'
      refine ⟨q, ys', v, rfl, rfl, f4', by rw [sizeLine_eq, f5']; exact hz, ?_⟩
      obtain ⟨R3, m3⟩ := R2.give h2
      obtain ⟨_, _, g3⟩ := R2.adr i _ q h2 f3'
      obtain ⟨R4, m4⟩ := R3.writeO (p := q) (u := .lst (ys' ++ [v])) (.inr f3') g3 rfl
      obtain ⟨R5, m5⟩ := R4.drop
      exact k.nx _ _ _ h3 ((((m1.trans m2).trans m3).trans m4).trans m5) R5
  · exact t.elim
/-- f(..), what is told is new -/
def dCallN (n : Nat) (F : DF) (t : DTA) : DT := fun ρ q => t ρ fun os ρ1 => os.length = n ∧ rdAllX os ρ1 fun ds => F ds fun d _ => Apart ds d ∧ q (.vl d) ρ1
theorem new_is {B : Bs} {ρ : DEnv} {σ : L2.St} {H H' : Hp} {v : V} {d : PyData} (R : Rep B ρ σ H) (is : Is (fun b => H b ≠ none) H' v d) : Is (OW B ρ) H' v d := is.reO fun b l m i q => by
  obtain ⟨o, e, _⟩ := R.ow q
  cases i with
  | lst n r _ => exact n (by rw [e]; simp)
  | tup r _ => exact (no_tup _ _ m).elim
  | dK n r _ => exact n (by rw [e]; simp)
  | dT n r _ => exact n (by rw [e]; simp)
theorem upCallN {E : XK} {σ : L2.St} {H : Hp} {Q : VK} (h : upO (dCallN n F t) σ H Q) : tCall (spD false n F) [] E (upA t) σ H Q := by
  obtain ⟨B, ρ, q, R, t, k⟩ := h
  refine ⟨B, ρ, _, R, t, fun os ρ1 vs H1 t1 m1 R1 i1 => ?_⟩
  obtain ⟨hl, t1⟩ := t1
  rw [List.append_nil]
  obtain ⟨ds, h1, is⟩ := OAll.all R1 i1 t1
  refine ⟨by rw [Paired.length i1, hl], allBut H1 ds, ds, _, fun a z => z.1, h1, ?_⟩
  rw [if_neg Bool.false_ne_true]
  exact ⟨is, fun d e v H' hq hs hv => k _ _ _ _ hq.2 (m1.trans (.same hs)) (R1.same hs) (new_is R1 (new_of hs hv hq.1))⟩
theorem do_callN (G : FnOk X.prog X.w X.K X.mg X.base CX0 k f fd ps (spD false n F)) (hr : Room k X.A) (hg : Gl X x) (hm : X.mg x = some (.ref f)) (hk : PySem.W.keepIn X.K (.ref f) = true) (hb : Binds X.K fd ps [])
    (ha : DA X (e :: es) t) (hdb : (x == ("__debug__" : Str)) = false := by decide) (he : starEach (e :: es) X.env = (false, eval e X.env) :: starEach es X.env := by rfl) (hpl : (backTo pos (starEach es X.env)).any (·.1) = false := by rfl) :
    DO X (.Call (.Name x p) (e :: es) [] pos) (dCallN n F t) := PE.imp (pe_call G hr hg hm hk hb .nil pass0 ha hdb he hpl) fun _ _ _ h => upCallN h
/-- f(b = .., a = ..), what is told is new -/
def dKw2N (F : DF) (t : DTA) : DT := fun ρ q => t ρ fun os ρ1 => os.length = 2 ∧ rdAllX os ρ1 fun ds => F ds.reverse fun d _ => Apart ds d ∧ q (.vl d) ρ1
theorem do_kw2N {kws : List Keyword} {x1 x2 : Str} (G : FnOk X.prog X.w X.K X.mg X.base CX0 k f fd ps (spD false 2 F)) (hr : Room k X.A) (hg : Gl X x) (hm : X.mg x = some (.ref f)) (hk : PySem.W.keepIn X.K (.ref f) = true)
    (hb : KBn X.K fd ps 0 [x1, x2] (fun _ ws => ws.reverse) (fun _ zs => zs.reverse)) (hkw : DK X kws t) (hall : (backToKw pos (keywordEach kws X.env)).all (·.1.isSome) = true := by rfl) (hks : (backToKw pos (keywordEach kws X.env)).filterMap (·.1) = [x1, x2] := by rfl)
    (hdb : (x == ("__debug__" : Str)) = false := by decide) (hpl : ((backTo pos (starEach [] X.env)).any (·.1) || (backToKw pos (keywordEach kws X.env)).any (·.1.isNone)) = false := by rfl) :
    DO X (.Call (.Name x p) [] kws pos) (dKw2N F t) := PE.imp (pe_kws G hr hg hm hk hb hkw hall hks hdb hpl) fun σ H Q ⟨B, ρ, q, R, t, k⟩ => by
  refine ⟨B, ρ, _, R, t, fun os ρ1 vs H1 t1 m1 R1 i1 => ?_⟩
  obtain ⟨hl, t1⟩ := t1
  obtain ⟨ds, h1, is⟩ := OAll.all R1 i1 t1
  refine ⟨(Paired.length i1).trans hl, by rw [List.length_reverse, Paired.length i1, hl], allBut H1 ds, ds.reverse, _, fun a z => z.1, h1, ?_⟩
  rw [if_neg Bool.false_ne_true]
  exact ⟨is.reverse, fun d e v H' hq hs hv => k _ _ _ _ hq.2 (m1.trans (.same hs)) (R1.same hs) (new_is R1 (new_of hs hv hq.1))⟩
end
end DL
namespace DL
open PySem PySem.Spec PyProof.Rows L2

/-! ### for x in a list, a tuple or a text -/
def ItS (K : PySem.W.Frag) : ZS → It
  | .l a => Itl K a
  | .t a => Itt K a
  | .s x => Its x
section
variable {X : Cx} {tg e : Expr} {te : TE} {ta : DT} {pos : Pos}
def iAnyV (K : PySem.W.Frag) (te : TE) : TI := fun σ H R => te σ H fun v H1 => ∃ (z : ZS) (xs : List V), v = z.v ∧ z.sq K H1 xs ∧ R (ItS K z) H1
theorem pi_any (he : PE X e te) : PI X tg e (iAnyV X.K te) := by
  refine ⟨fun pins s σ H R I h => thn (he.run pins s σ H _ I h) fun v s1 ⟨y, H1, J, rel, z, xs, ev, hq, q⟩ => ?_⟩
  subst ev
  have fresh : ∀ b ∈ [s1.heap.objs.size], FpOk X pins H1 b := fun b hb => by
    rw [List.mem_singleton.mp hb]
    exact J.fpOk (Nat.le_refl _) (J.hok.fresh (Nat.le_refl _))
  have grown : ∀ o : Obj, Inv X pins σ H1 { s1 with heap := s1.heap.push o } := fun o => J.kept (t' := s1.toks) fun b u q => Heap.get?_push_of_some _ q
  cases z with
  | l a =>
    cases rel
    obtain ⟨its, rv, p, _⟩ := J.list hq
    exact wpAny_pyIter_list p.isList ⟨_, _, _, _, H1, rfl, grown _, turn_list a _, ⟨_, Heap.get?_push_size _ rfl, rfl, rfl⟩, fresh, q⟩
  | t a =>
    cases rel
    obtain ⟨its, rv, p, _⟩ := J.tuple hq
    exact wpAny_pyIter_tuple (show s1.heap.IsTuple a its.toArray from p) ⟨_, _, _, _, H1, rfl, grown _, turn_tuple a _, ⟨_, Heap.get?_push_size _ rfl, rfl, rfl⟩, fresh, q⟩
  | s x =>
    obtain ⟨t, rfl⟩ := rel
    by_cases ha : x.cps.all (· < 128) = true
    · exact wpAny_pyIter_ascii ha ⟨_, _, _, _, H1, rfl, grown _, turn_str _ x t "str_ascii_iterator" (.inl rfl), ⟨_, Heap.get?_push_size _ rfl, rfl, rfl⟩, fresh, q⟩
    · exact wpAny_pyIter_wide (by simpa using ha) ⟨_, _, _, _, H1, rfl, grown _, turn_str _ x t "str_iterator" (.inr rfl), ⟨_, Heap.get?_push_size _ rfl, rfl, rfl⟩, fresh, q⟩
theorem src_any {K : PySem.W.Frag} {O : Addr → Prop} {H0 : Hp} {v : V} {d : PyData} {ds : List PyData} (is : Is O H0 v d) (e : seqD d = some ds) : ∃ (z : ZS) (xs : List V), v = z.v ∧ z.sq K H0 xs ∧ Src (ItS K z) O H0 ds := by
  cases is with
  | non => cases e
  | bl b => cases e
  | int i => cases e
  | @lst a xs ds' n r all => cases e; exact ⟨.l a, xs, rfl, SqL.of r, src_list n r all⟩
  | @tup a xs ds' r all => cases e; exact ⟨.t a, xs, rfl, SqT.of r, src_tup r all⟩
  | str x =>
    cases e
    refine ⟨.s x, _, rfl, rfl, fun i O' H m => ⟨fun d hd => ?_, fun hl => ?_⟩⟩
    · rw [List.getElem?_map] at hd
      cases q : (L x)[i]? with
      | none => rw [q] at hd; cases hd
      | some c =>
        rw [q] at hd
        cases hd
        have q' : x.cps[i]? = some c := by rw [← Array.getElem?_toList]; exact q
        refine ⟨(Array.getElem?_eq_some_iff.mp q').1, fun y H' ⟨e, c', hc, ey⟩ => ?_⟩
        rw [q'] at hc
        cases hc
        subst e ey
        exact ⟨Same.refl _, .str _⟩
    · rw [List.length_map, L_len] at hl
      exact Nat.le_of_eq hl.symm
  | dK n r t => cases e
  | dT n r t => cases e
def iAny (ta : DT) : DTI := fun ρ q => ta ρ fun o ρ1 => o.tk ρ1 fun d ρ2 => ∃ ds, seqD d = some ds ∧ q ds ρ2
theorem di_any (ha : DO X e ta) : DI X tg e (iAny ta) := PI.imp (pi_any ha) fun σ H R' ⟨B, ρ, q, R, t, k⟩ => by
  refine ⟨B, ρ, _, R, t, fun o ρ1 v H1 t1 m1 R1 i1 => ?_⟩
  obtain ⟨d, ρ2, ⟨ds, hd, h2⟩, is, R2, m2⟩ := i1.tk R1 t1
  obtain ⟨z, xs, ev, hq, src⟩ := src_any (K := X.K) is hd
  exact ⟨z, xs, ev, hq, k _ _ _ _ h2 (m1.trans m2) R2 src⟩
end

/-! ### a = list(x) -/
section
variable {X : Cx} {e : Expr} {ta : DT} {pos p : Pos}
def fListOf (ta : DT) : DTF := fun ρ q => ta ρ fun o ρ1 => o.rd ρ1 fun d => match d with
  | .list ds => q (.list ds) ρ1
  | .tuple ds => q (.list ds) ρ1
  | _ => False
theorem dfr_listOf (hg : Gl X "list") (hm : X.mg "list" = none) (ha : DO X e ta) (he : starEach [e] X.env = (false, eval e X.env) :: starEach [] X.env := by rfl) : DFr X (.Call (.Name "list" p) [e] [] pos) (fListOf ta) :=
  PE.imp (pe_callTy call_list_of hg hm (by decide +kernel) (pa_cons ha pa_nil he) (by decide) (by decide) he) fun σ H Q ⟨B, ρ, q, R, t, k⟩ => by
  refine ⟨B, ρ, _, R, t, fun o ρ1 v H1 t1 m1 R1 i1 => ?_⟩
  obtain ⟨d, h2, rd⟩ := i1.rd R1 t1
  have fin : ∀ {ys : List V} {ds : List PyData} (l : Addr), q (.list ds) ρ1 → IsAll (OW B ρ1) H1 ys ds → H1 l = none → Q (.ref l) (upd H1 l (.lst ys)) := fun {ys ds} l hq all hl => by
    obtain ⟨R3, tp, m3⟩ := R1.fresh hl (.lst all)
    obtain ⟨e1, e2⟩ := R1.entry hl
    exact k _ _ _ _ hq e1 e2 (m1.trans m3) R3 tp
  split at h2
  · obtain ⟨a, ys, rfl, e2, e3⟩ := rd.lst
    exact ⟨a, ys, rfl, .inl (SqL.of e2), fun l hl => fin l h2 e3 hl⟩
  · obtain ⟨a, ys, rfl, e2, e3⟩ := rd.tup
    exact ⟨a, ys, rfl, .inr (SqT.of e2), fun l hl => fin l h2 e3 hl⟩
  · exact h2.elim
/-- a module's text or number -/
theorem do_glo {x : Str} {v : V} {d : PyData} {u : Value} (hg : Gl X x) (hm : X.mg x = some u) (r : RelV v u) (s : Sc v d) (hd : (x == ("__debug__" : Str)) = false := by decide) : DO X (.Name x pos) (dC d) := do_c (pe_glob hg hm r hd) s
end

/-! ### what is known of a def -/
structure Know (P : Program) (w : World) (K : PySem.W.Frag) (mg : Str → Option Value) (base : Heap) (x : Str) (k : Nat) (ps : List Str) (m : Bool) (n : Nat) (F : DF) : Prop where
  ex : ∃ (f : Addr) (fd : FuncData), mg x = some (.ref f) ∧ PySem.W.keepIn K (.ref f) = true ∧ L2.Binds K fd ps [] ∧ FnOk P w K mg base CX0 k f fd ps (spD m n F)
/-- .. and of its call by two keywords, turned round -/
structure KnowK (P : Program) (w : World) (K : PySem.W.Frag) (mg : Str → Option Value) (base : Heap) (x : Str) (k : Nat) (p1 p2 : Str) (F : DF) : Prop where
  ex : ∃ (f : Addr) (fd : FuncData), mg x = some (.ref f) ∧ PySem.W.keepIn K (.ref f) = true ∧ L2.Binds K fd [p1, p2] [] ∧ FnOk P w K mg base CX0 k f fd [p1, p2] (spD false 2 F) ∧ KBn K fd [p1, p2] 0 [p2, p1] (fun _ ws => ws.reverse) (fun _ zs => zs.reverse)
structure KnowG (P : Program) (w : World) (K : PySem.W.Frag) (mg : Str → Option Value) (base : Heap) (x : Str) (k : Nat) (ps : List Str) (m : Bool) (n : Nat) (F : DF) : Prop where
  ex : ∃ (f : Addr) (fd : FuncData), mg x = some (.ref f) ∧ PySem.W.keepIn K (.ref f) = true ∧ L2.Binds K fd ps [] ∧ FnG P w K mg base k f fd ps (spD m n F)
end DL
namespace DL
open PySem PySem.Spec PyProof.Rows L2

/-! ### min and max of a tuple or list of integers -/
section
variable {prog : Program} {w : World} {A : Around} {E : Value → Shared → Prop} {s : Shared} {l : Addr} {xs : Array (Int × Tok)} {its : List Value} {ns : List Int} {Q : Value → Shared → Prop}
theorem iter_tupI (hl : s.heap.IsTuple l (intItems xs))
    (h : ∀ s2 : Shared, s2 = { s with heap := s.heap.push { cls := .type "tuple_iterator", data := .fields #[.ref l, .int 0 0] } } →
      (s2.heap.IsTupleIter s.heap.objs.size l 0 ∧ s2.heap.IsTuple l (intItems xs)) → (∀ b ∈ [s.heap.objs.size, l], b < s2.heap.objs.size) → l ≠ s.heap.objs.size → Q (.ref s.heap.objs.size) s2) :
    wpAny (model prog w) A (pyIter (.ref l)) Q E s := by
  have hlt : l < s.heap.objs.size := by
    obtain ⟨_, e, _⟩ := hl
    exact Heap.lt_size e
  refine wpAny_pyIter_tuple hl (h _ rfl ⟨⟨_, Heap.get?_push_size _ rfl, rfl, rfl⟩, hl.push _⟩ (fun b hb => ?_) (Nat.ne_of_lt hlt))
  have sz : (s.heap.push { cls := .type "tuple_iterator", data := .fields #[.ref l, .int 0 0] }).objs.size = s.heap.objs.size + 1 := Heap.size_push ..
  have hb' : b = s.heap.objs.size ∨ b = l := by simpa using hb
  show b < (s.heap.push _).objs.size
  rw [sz]
  rcases hb' with e | e
  · rw [e]; exact Nat.lt_succ_self _
  · rw [e]; exact Nat.lt_succ_of_lt hlt
theorem old_keptT {h' : Heap} (hk : ∀ b o, b ∉ [s.heap.objs.size] → (s.heap.push { cls := .type "tuple_iterator", data := .fields #[.ref l, .int 0 0] }).get? b = some o → h'.get? b = some o) :
    ∀ b o, s.heap.get? b = some o → h'.get? b = some o := fun b o e => by
  refine hk b o (fun hm => ?_) (Heap.get?_push_of_some _ e)
  have e1 : b = s.heap.objs.size := by simpa using hm
  exact absurd (e1 ▸ Heap.lt_size e) (Nat.lt_irrefl _)
theorem min_tupRaw (hh : A.handled = none) (hl : s.heap.IsTuple l its.toArray) (hi : IntsAre its ns) (hne : 0 < ns.length)
    (h : ∀ h' tk M t', (∀ b o, s.heap.get? b = some o → h'.get? b = some o) → M ∈ ns → (∀ a, a ∈ ns → M ≤ a) → Q (.int M t') { s with heap := h', toks := tk }) : wpAny (model prog w) A (call (.builtin "min") [.ref l]) Q E s := by
  obtain ⟨xs, e⟩ := hi.allInts.items
  have hn : numsOf (intItems xs).toList = ns := by rw [← e]; exact hi.numsOf
  rw [nums_intItems] at hn
  subst hn
  rw [e] at hl
  have hsz : 0 < xs.size := by simpa using hne
  refine call_min_walk (iter_tupI hl fun s2 e st hfp hlI => ?_)
  subst e
  refine ⟨_, _, _, _, _, _, _, rfl, Walks.tuple (A := A.in1) hh _ l hlI (intItems xs), st, hfp, by simpa [intItems] using hsz, CmpOf.ints_lt (numAt xs) (fun _ _ => intItems_at), fun v h' tk hP hk => ?_⟩
  have hv : (intItems xs)[argBest (fun i j => decide (numAt xs i < numAt xs j)) (xs.size - 1)]? = some v := by simpa [intItems] using hP
  obtain ⟨t, rfl⟩ := intItems_at hv
  obtain ⟨h1, h2⟩ := argBest_lt (numAt xs) (xs.size - 1)
  refine h h' tk _ t (old_keptT hk) ?_ fun a ha => ?_
  · rw [numAt_eq]
    exact PySem.getD_mem (by rw [List.length_map, Array.length_toList]; omega)
  · obtain ⟨j, hj, rfl⟩ := mem_getD ha
    rw [List.length_map, Array.length_toList] at hj
    rw [← numAt_eq]
    exact h2 j (by omega)
theorem max_tupRaw (hh : A.handled = none) (hl : s.heap.IsTuple l its.toArray) (hi : IntsAre its ns) (hne : 0 < ns.length)
    (h : ∀ h' tk M t', (∀ b o, s.heap.get? b = some o → h'.get? b = some o) → M ∈ ns → (∀ a, a ∈ ns → a ≤ M) → Q (.int M t') { s with heap := h', toks := tk }) : wpAny (model prog w) A (call (.builtin "max") [.ref l]) Q E s := by
  obtain ⟨xs, e⟩ := hi.allInts.items
  have hn : numsOf (intItems xs).toList = ns := by rw [← e]; exact hi.numsOf
  rw [nums_intItems] at hn
  subst hn
  rw [e] at hl
  have hsz : 0 < xs.size := by simpa using hne
  refine call_max_walk (iter_tupI hl fun s2 e st hfp hlI => ?_)
  subst e
  refine ⟨_, _, _, _, _, _, _, rfl, Walks.tuple (A := A.in1) hh _ l hlI (intItems xs), st, hfp, by simpa [intItems] using hsz, CmpOf.ints_gt (numAt xs) (fun _ _ => intItems_at), fun v h' tk hP hk => ?_⟩
  have hv : (intItems xs)[argBest (fun i j => decide (numAt xs i > numAt xs j)) (xs.size - 1)]? = some v := by simpa [intItems] using hP
  obtain ⟨t, rfl⟩ := intItems_at hv
  obtain ⟨h1, h2⟩ := argBest_gt (numAt xs) (xs.size - 1)
  refine h h' tk _ t (old_keptT hk) ?_ fun a ha => ?_
  · rw [numAt_eq]
    exact PySem.getD_mem (by rw [List.length_map, Array.length_toList]; omega)
  · obtain ⟨j, hj, rfl⟩ := mem_getD ha
    rw [List.length_map, Array.length_toList] at hj
    rw [← numAt_eq]
    exact h2 j (by omega)
end
def minI : List Int → Int
  | [] => 0
  | [x] => x
  | x :: y :: r => min x (minI (y :: r))
def maxI : List Int → Int
  | [] => 0
  | [x] => x
  | x :: y :: r => max x (maxI (y :: r))
theorem minI_le : ∀ {ns : List Int} {a : Int}, a ∈ ns → minI ns ≤ a
  | [x], a, h => by
    have : a = x := by simpa using h
    rw [this]
    exact Int.le_refl _
  | x :: y :: r, a, h => by
    show min x (minI (y :: r)) ≤ a
    rcases List.mem_cons.mp h with e | e
    · rw [e]; exact Int.min_le_left ..
    · exact Int.le_trans (Int.min_le_right ..) (minI_le e)
theorem minI_mem : ∀ {ns : List Int}, 0 < ns.length → minI ns ∈ ns
  | [x], _ => List.mem_cons_self ..
  | x :: y :: r, _ => by
    show min x (minI (y :: r)) ∈ _
    by_cases c : x ≤ minI (y :: r)
    · rw [Int.min_eq_left c]; exact List.mem_cons_self ..
    · rw [Int.min_eq_right (by omega)]; exact List.mem_cons_of_mem _ (minI_mem (by simp))
theorem le_maxI : ∀ {ns : List Int} {a : Int}, a ∈ ns → a ≤ maxI ns
  | [x], a, h => by
    have : a = x := by simpa using h
    rw [this]
    exact Int.le_refl _
  | x :: y :: r, a, h => by
    show a ≤ max x (maxI (y :: r))
    rcases List.mem_cons.mp h with e | e
    · rw [e]; exact Int.le_max_left ..
    · exact Int.le_trans (le_maxI e) (Int.le_max_right ..)
theorem maxI_mem : ∀ {ns : List Int}, 0 < ns.length → maxI ns ∈ ns
  | [x], _ => List.mem_cons_self ..
  | x :: y :: r, _ => by
    show max x (maxI (y :: r)) ∈ _
    by_cases c : x ≤ maxI (y :: r)
    · rw [Int.max_eq_right c]; exact List.mem_cons_of_mem _ (maxI_mem (by simp))
    · rw [Int.max_eq_left (by omega)]; exact List.mem_cons_self ..
def rMinA (K : PySem.W.Frag) : List V → Hp → VK → Prop := fun vs H Q => ∃ (a : Addr) (ns : List Int), vs = [V.ref a] ∧ (SqL K H a (ns.map V.int) ∨ SqT K H a (ns.map V.int)) ∧ 0 < ns.length ∧ Q (.int (minI ns)) H
def rMaxA (K : PySem.W.Frag) : List V → Hp → VK → Prop := fun vs H Q => ∃ (a : Addr) (ns : List Int), vs = [V.ref a] ∧ (SqL K H a (ns.map V.int) ∨ SqT K H a (ns.map V.int)) ∧ 0 < ns.length ∧ Q (.int (maxI ns)) H
theorem cr_minA {X : Cx} (hc : X.calm = true) : CallR X (.builtin "min") (rMinA X.K) := by
  intro pins s σ H vs us Q I r h
  obtain ⟨a, ns, rfl, hs, hne, q⟩ := h
  rw [Vals.ref1 r]
  have fin : ∀ {m : Int}, m ∈ ns → (∀ y, y ∈ ns → m ≤ y) → m = minI ns := fun h1 h2 => Int.le_antisymm (h2 _ (minI_mem hne)) (minI_le h1)
  rcases hs with hs | hs
  · obtain ⟨its, rv, hl, _⟩ := I.list hs
    exact min_raw (I.ok.hd hc) hl.isList rv.ints hne fun h' tk m t' hk h1 h2 => ⟨.int _, H, I.kept hk, ⟨_, rfl⟩, by rw [fin h1 h2]; exact q⟩
  · obtain ⟨its, rv, hl, _⟩ := I.tuple hs
    exact min_tupRaw (I.ok.hd hc) hl rv.ints hne fun h' tk m t' hk h1 h2 => ⟨.int _, H, I.kept hk, ⟨_, rfl⟩, by rw [fin h1 h2]; exact q⟩
theorem cr_maxA {X : Cx} (hc : X.calm = true) : CallR X (.builtin "max") (rMaxA X.K) := by
  intro pins s σ H vs us Q I r h
  obtain ⟨a, ns, rfl, hs, hne, q⟩ := h
  rw [Vals.ref1 r]
  have fin : ∀ {m : Int}, m ∈ ns → (∀ y, y ∈ ns → y ≤ m) → m = maxI ns := fun h1 h2 => Int.le_antisymm (le_maxI h1) (h2 _ (maxI_mem hne))
  rcases hs with hs | hs
  · obtain ⟨its, rv, hl, _⟩ := I.list hs
    exact max_raw (I.ok.hd hc) hl.isList rv.ints hne fun h' tk m t' hk h1 h2 => ⟨.int _, H, I.kept hk, ⟨_, rfl⟩, by rw [fin h1 h2]; exact q⟩
  · obtain ⟨its, rv, hl, _⟩ := I.tuple hs
    exact max_tupRaw (I.ok.hd hc) hl rv.ints hne fun h' tk m t' hk h1 h2 => ⟨.int _, H, I.kept hk, ⟨_, rfl⟩, by rw [fin h1 h2]; exact q⟩
/-! ### a text turned round -/
theorem rev_pick (z : Str) : (⟨((Builtin.Str.strSliceIndices none none (-1) z.length).filterMap (z.cps[·]?)).toArray⟩ : Str) = mk (L z).reverse := by
  rw [picked_rev, PySem.W.krv_range, List.filterMap_reverse]
  have e := PySem.W.krv_all z.cps
  unfold mk L
  rw [← e]
  rfl
def tRevS (te : TE) : TE := fun σ H Q => te σ H fun v H1 => ∃ z : Str, v = .str z ∧ z.length ≤ sizeLine ∧ Q (.str (mk (L z).reverse)) H1
section
variable {X : Cx} {e : Expr} {te : TE} {ta : DT} {pos p2 p3 p4 : Pos} {j : Nat}
theorem pe_revS (he : PE X e te) : PE X (.Subscript e (.Slice none none (some (.UnaryOp .USub (.Constant (.int 1) j p3) p4)) p2) pos) (tRevS te) := by
  have hst : PO X (some (.UnaryOp .USub (.Constant (.int 1) j p3) p4)) _ := po_some (pe_un un_neg (pe_int (X := X) (i := 1) (j := j) (pos := p3)))
  refine ⟨fun pins s σ H Q I h => ?_⟩
  refine Subscript_ (thn (he.run pins s σ H _ I h) fun v s1 ⟨x, H1, I1, r1, q1⟩ => ?_)
  obtain ⟨z, rfl, hz, q⟩ := q1
  obtain ⟨tz, rfl⟩ := r1
  refine wpAny_Slice ?_
  rw [evalPart_none]
  refine wpAny_pure ?_
  refine wpAny_pure (thn (hst.run pins s1 σ H1 (fun o H2 => o = some (-1) ∧ H2 = H1) I1 ?_) fun vs s2 ⟨o, H2, I2, ps, q2, q3⟩ => ?_)
  · exact ⟨1, rfl, -1, rfl, rfl, rfl⟩
  · subst q2 q3
    have I4 : Inv X pins σ H2 { s2 with heap := s2.heap.push { cls := .type "slice", data := .fields #[.none, .none, vs] } } := I2.kept (t' := s2.toks) fun b ob q => Heap.get?_push_of_some _ q
    obtain ⟨st, e1, e2⟩ := IsPart.raw ps
    cases st with
    | none => cases e2
    | some st =>
      obtain ⟨i, t⟩ := st
      have ei : i = -1 := by
        have := e2
        simp at this
        omega
      subst ei
      subst e1
      show wpAny (model X.prog X.w) X.A (subscriptTail e (.Slice none none (some (.UnaryOp .USub (.Constant (.int 1) j p3) p4)) p2) (.str z tz) (.ref s2.heap.objs.size)) (EP X pins σ Q) X.xe _
      refine tail_any (ops := [.ref s2.heap.objs.size, .str z tz]) (typeIs_str _ _ _) F.slot_str_getitem.lookup ?_ (by with_unfolding_all rfl)
      refine wpAny_getItem_str_slice (l := none) (u := none) (st := some (-1, t)) ⟨_, Heap.get?_push_size _ rfl, rfl, rfl⟩ rfl ?_
      show Made.post (if ((-1 : Int) == 1 && (Builtin.Str.strSliceIndices none none (-1) z.length).length == z.length) = true then Made.val (.str z tz)
        else Made.str ⟨((Builtin.Str.strSliceIndices none none (-1) z.length).filterMap (z.cps[·]?)).toArray⟩) _ _
      rw [if_neg (by simp), rev_pick]
      refine ⟨?_, .str _, H2, I4.tok _, ⟨_, rfl⟩, q⟩
      show (L z).reverse.toArray.size ≤ sizeLine
      rw [List.size_toArray, List.length_reverse, L_len]
      exact hz
def gRevS : D1 := fun d q => match d with
  | .str z => z.length ≤ 16777216 ∧ q (.str (mk (L z).reverse))
  | _ => False
theorem do_revS (ha : DO X e ta) : DO X (.Subscript e (.Slice none none (some (.UnaryOp .USub (.Constant (.int 1) j p3) p4)) p2) pos) (d1 gRevS ta) := PE.imp (pe_revS ha) fun σ H Q ⟨B, ρ, q, R, t, k⟩ => by
  refine ⟨B, ρ, _, R, t, fun o ρ1 v H1 t1 m1 R1 i1 => ?_⟩
  obtain ⟨d, h1, r⟩ := i1.rd R1 t1
  unfold gRevS at h1
  split at h1
  · rename_i z
    exact ⟨z, r.str, by rw [sizeLine_eq]; exact h1.1, k _ _ _ _ h1.2 m1 R1 (.str _)⟩
  · exact h1.elim
end

/-! ### list(reversed(xs)) -/
section
variable {prog : Program} {w : World} {A : Around} {E : Value → Shared → Prop} {s : Shared}
theorem call_listRev {it l : Addr} {items : Array Value} {Q : Value → Shared → Prop} (hh : A.handled = none) (hit : s.heap.IsRevIter it l ((items.size : Int) - 1)) (hl : s.heap.IsList l items) (hne : l ≠ it) (hn : items.size ≤ sizeLine)
    (hQ : ∀ (h' : Heap) (tk : Nat) (acc : Array Value) (c : Nat), (∀ b o, b ≠ it → s.heap.get? b = some o → h'.get? b = some o) → h'.get? s.heap.objs.size = some { cls := .type "list", dict := none, data := .seq acc c, slots := #[] } →
      ItemsOf (fun i v => items[items.size - 1 - i]? = some v) acc items.size → Q (.ref s.heap.objs.size) { s with heap := h', toks := tk }) :
    wpAny (model prog w) A (call (.type "list") [.ref it]) Q E s := by
  refine callType_codes (Q₁ := fun obj s1 => obj = .ref s.heap.objs.size ∧ s1 = { s with heap := s.heap.push { cls := .type "list", data := .seq #[] } }) F.called_list (F.typeCall_list_1 _) F.entry_list_init (code_list_new _ ⟨rfl, rfl⟩) fun obj s1 h1 => ?_
  obtain ⟨rfl, rfl⟩ := h1
  have W := (Walks.listRev (prog := prog) (w := w) (A := A.in1.in1) hh it l hne items).toS
  obtain ⟨oi, hoi, _⟩ := id hit
  obtain ⟨ol, hol, _⟩ := id hl
  have hSi : s.heap.objs.size ≠ it := Nat.ne_of_gt (Heap.lt_size hoi)
  have hSl : s.heap.objs.size ≠ l := Nat.ne_of_gt (Heap.lt_size hol)
  have hSf : s.heap.objs.size ∉ [it, l] := by
    simp only [List.mem_cons, List.not_mem_nil, or_false, not_or]
    exact ⟨hSi, hSl⟩
  have hS : (s.heap.push { cls := .type "list", data := .seq #[] }).get? s.heap.objs.size = some { cls := .type "list", data := .seq #[] } := Heap.get?_push_size _ rfl
  refine ⟨⟨_, hS, rfl⟩, F.args_list_init_2 _ _, ?_⟩
  show wpAny _ A.in1.in1 (do let old ← Builtin.List.listItems (.ref s.heap.objs.size); Builtin.List.listUpdate (.ref s.heap.objs.size) (fun _ => #[]); letGo old.toList.reverse; Builtin.List.listExtendWith (.ref s.heap.objs.size) (.ref it) .none) _ _ _
  refine wpAny_bind ?_
  unfold Builtin.List.listItems
  refine wpAny_bind (wpAny_seqItems hS rfl (wpAny_pure ?_))
  show wpAny _ A.in1.in1 (updateSeq s.heap.objs.size (fun _ => #[]) >>= fun _ => letGo (#[] : Array Value).toList.reverse >>= fun _ => Builtin.List.listExtendWith (.ref s.heap.objs.size) (.ref it) .none) _ _ _
  refine wpAny_bind (wpAny_updateSeq hS rfl ?_)
  have hS2 := Heap.get?_update_self (Obj.mapSeq (fun _ => (#[] : Array Value))) hS rfl
  have oth : ∀ b o, s.heap.get? b = some o → ((s.heap.push { cls := .type "list", data := .seq #[] }).update s.heap.objs.size (Obj.mapSeq (fun _ => (#[] : Array Value)))).get? b = some o :=
    fun b o e => (Heap.get?_update_other _ _ (Nat.ne_of_gt (Heap.lt_size e))).trans (Heap.get?_push_of_some _ e)
  refine wpAny_bind (wpAny_letGo ?_)
  have hit1 : ((s.heap.push { cls := .type "list", data := .seq #[] }).update s.heap.objs.size (Obj.mapSeq (fun _ => (#[] : Array Value)))).IsRevIter it l ((items.size : Int) - 1) := hit.at fun o e => oth _ _ e
  have hl1 : ((s.heap.push { cls := .type "list", data := .seq #[] }).update s.heap.objs.size (Obj.mapSeq (fun _ => (#[] : Array Value)))).IsList l items := by
    obtain ⟨o, e, r⟩ := hl
    exact ⟨o, oth _ _ e, r⟩
  have hT : ({ s with heap := (s.heap.push { cls := .type "list", data := .seq #[] }).update s.heap.objs.size (Obj.mapSeq (fun _ => (#[] : Array Value))) } : Shared).TypeIs (.ref it) "list_reverseiterator" := Heap.IsRevIter.typeIs hit1
  have h1 : Builtin.List.listSameRef (.ref s.heap.objs.size) (.ref it) = false := by simp [Builtin.List.listSameRef, hSi]
  show wpAny _ A.in1.in1 (Builtin.List.listExtendWith (.ref s.heap.objs.size) (.ref it) .none) _ _ _
  unfold Builtin.List.listExtendWith
  refine wpAny_bind (wpAny_typeOf hT ?_)
  rw [if_neg (by rw [h1]; decide)]
  refine wpAny_bind (wpAny_pyIter_revIter hit1 ?_)
  refine wpAny_bind (wpAny_holding ?_)
  unfold Builtin.List.listLengthHint
  refine wpAny_bind (wpAny_specialOf hT RT.nolen_lri ?_)
  show wpAny _ A.in1.in1 (specialOf (Value.ref it) (Str.ofString "__length_hint__") >>= _) _ _ _
  refine wpAny_bind (wpAny_specialOf hT RT.hint_lri ?_)
  generalize hid : ("list_reverseiterator.__length_hint__" : String) = id0
  wp_delta
  rw [show splitId id0 = some ("list_reverseiterator", "__length_hint__") from by subst hid; decide +kernel]
  subst hid
  refine wpAny_bind (wpAny_isInstance (b := true) hT (by rw [isSubtype_type]; kernel_rfl) ?_)
  refine wpAny_pure ?_
  rw [if_neg (by decide)]
  have e0 : ((items.size : Nat) : Int) - 1 - ((0 : Nat) : Int) = (items.size : Int) - 1 := by omega
  refine wpAny_pure ⟨plainId_quiet F.plain_extend_loop _, codeAny_extend_loopS W hn _ hSf _ items.size 0 _ _ _ rfl (Nat.zero_le _) ⟨Nat.zero_le _, by rw [e0]; exact hit1, hl1⟩ hS2 (ItemsOf.nil _) fun s' acc' c' hm hS' hacc => ?_⟩
  rw [Moved.eq_with hm]
  refine ⟨rfl, hQ s'.heap s'.toks acc' c' (fun b o hb e => hm.heap b o (fun hmem => ?_) (oth b o e)) hS' hacc⟩
  rcases List.mem_cons.mp hmem with e' | hmem
  · exact absurd (Heap.lt_size e) (by rw [e']; exact Nat.lt_irrefl _)
  · exact hb (List.mem_singleton.mp hmem)
end

section
variable {X : Cx}
def tLstRev (K : PySem.W.Frag) (te : TE) : TE := fun σ H Q => te σ H fun v H1 => ∃ (a : Addr) (xs : List V), v = .ref a ∧ SqL K H1 a xs ∧ ∀ q, H1 q = none → Q (.ref q) (upd H1 q (.lst xs.reverse))
theorem pe_lstRev {e : Expr} {te : TE} {p p2 pos pos2 : Pos} (hc : X.calm = true) (hg : Gl X "list") (hm : X.mg "list" = none) (hg2 : Gl X "reversed") (hm2 : X.mg "reversed" = none) (he : PE X e te)
    (hs : starEach [e] X.env = (false, eval e X.env) :: starEach [] X.env := by rfl)
    (hs2 : starEach [.Call (.Name "reversed" p2) [e] [] pos2] X.env = (false, eval (.Call (.Name "reversed" p2) [e] [] pos2) X.env) :: starEach [] X.env := by rfl) :
    PE X (.Call (.Name "list" p) [.Call (.Name "reversed" p2) [e] [] pos2] [] pos) (tLstRev X.K te) := by
  refine ⟨fun pins s σ H Q I h => ?_⟩
  refine Call_ (ld_blt I hg hm boot_list (PyProof.Rows.callWith_type1 (args_cons (Call_ (ld_blt I hg2 hm2 PyProof.Rows.boot_reversed (PyProof.Rows.callWith_type1 (args_cons (thn (he.run pins s σ H _ I h) fun u s1 ⟨v, H1, I1, r1, q1⟩ => args_nil ?_) hs) hs rfl))) hs2) hs2 rfl))
  obtain ⟨a, xs, ev, hq, q⟩ := q1
  subst ev
  obtain rfl : u = Value.ref a := r1
  obtain ⟨its, rv, p', hz⟩ := I1.list hq
  refine call_reversed_list p'.isList (args_nil ?_)
  have k0 : ∀ b o, s1.heap.get? b = some o → (s1.heap.push (revObj a ((its.toArray.size : Int) - 1))).get? b = some o := fun b o e => Heap.get?_push_of_some _ e
  have I2 : Inv X pins σ H1 { s1 with heap := s1.heap.push (revObj a ((its.toArray.size : Int) - 1)) } := I1.kept (t' := s1.toks) k0
  obtain ⟨f0, f1, f2, f3, f4, f5⟩ := I1.fpOk (H' := H1) (b := s1.heap.objs.size) (Nat.le_refl _) (I1.hok.fresh (Nat.le_refl _))
  have hl := p'.isList
  obtain ⟨ol, hol, _⟩ := id hl
  have hne : a ≠ s1.heap.objs.size := Nat.ne_of_lt (Heap.lt_size hol)
  have hn : its.toArray.size ≤ sizeLine := by rw [List.size_toArray, ← rv.length]; exact hz
  refine call_listRev (s := { s1 with heap := s1.heap.push (revObj a ((its.toArray.size : Int) - 1)) }) (I1.ok.hd hc) ⟨_, Heap.get?_push_size _ rfl, rfl, rfl⟩ (hl.push _) hne hn fun h' tk acc c hk hS hi => ?_
  have sz : (s1.heap.push (revObj a ((its.toArray.size : Int) - 1))).objs.size = s1.heap.objs.size + 1 := Heap.size_push ..
  rw [sz] at hS ⊢
  have old : ∀ b o, s1.heap.get? b = some o → h'.get? b = some o := fun b o e => hk b o (Nat.ne_of_lt (Heap.lt_size e)) (k0 b o e)
  refine ⟨.ref (s1.heap.objs.size + 1), upd H1 (s1.heap.objs.size + 1) (.lst xs.reverse), I1.laid (t' := tk) old (Nat.le_succ _) (show ObjOk X.prog X.w _ _ _ (.lst xs.reverse) from ⟨by rw [List.length_reverse]; exact hz, acc.toList, c, RT.vals_rev rv hi, ?_⟩), rfl, q _ (I1.hok.fresh (Nat.le_succ _))⟩
  rw [Array.toArray_toList]
  exact hS
def fLstRev (ta : DT) : DTF := fun ρ q => ta ρ fun o ρ1 => o.rd ρ1 fun d => match d with
  | .list ds => q (.list ds.reverse) ρ1
  | _ => False
theorem dfr_lstRev {e : Expr} {ta : DT} {p p2 pos pos2 : Pos} (hc : X.calm = true) (hg : Gl X "list") (hm : X.mg "list" = none) (hg2 : Gl X "reversed") (hm2 : X.mg "reversed" = none) (ha : DO X e ta)
    (hs : starEach [e] X.env = (false, eval e X.env) :: starEach [] X.env := by rfl)
    (hs2 : starEach [.Call (.Name "reversed" p2) [e] [] pos2] X.env = (false, eval (.Call (.Name "reversed" p2) [e] [] pos2) X.env) :: starEach [] X.env := by rfl) :
    DFr X (.Call (.Name "list" p) [.Call (.Name "reversed" p2) [e] [] pos2] [] pos) (fLstRev ta) := PE.imp (pe_lstRev hc hg hm hg2 hm2 ha hs hs2) fun σ H Q ⟨B, ρ, q, R, t, k⟩ => by
  refine ⟨B, ρ, _, R, t, fun o ρ1 v H1 t1 m1 R1 i1 => ?_⟩
  obtain ⟨d, h1, r⟩ := i1.rd R1 t1
  split at h1
  · rename_i ds
    obtain ⟨a, xs, rfl, e1, is⟩ := r.lst
    refine ⟨a, xs, rfl, SqL.of e1, fun p hp => ?_⟩
    obtain ⟨R3, tp, m3⟩ := R1.fresh hp (.lst is.reverse)
    obtain ⟨f1, f2⟩ := R1.entry hp
    exact k _ _ _ _ h1 f1 f2 (m1.trans m3) R3 tp
  · exact h1.elim
end

/-! ### tuple(xs) of a list -/
section
variable {X : Cx} {e : Expr} {ta : DT} {p pos : Pos}
def gTupOf : D1 := fun d q => match d with
  | .list ds => q (.tuple ds)
  | .tuple ds => q (.tuple ds)
  | _ => False
theorem fit_tupOf {K : PySem.W.Frag} : Fit (fun xs H Q => ∃ p ys, xs = [.ref p] ∧ ((SqL K H p ys ∧ ∀ l, H l = none → Q (.ref l) (upd H l (.tup ys))) ∨ (SqT K H p ys ∧ Q (.ref p) H))) (g1 gTupOf) := fun O H xs ds q Q tr rs h k => by
  unfold g1 at h
  split at h
  · rename_i d
    obtain ⟨x, rfl, r⟩ := rdAll1 rs
    unfold gTupOf at h
    split at h
    · obtain ⟨a, ys, rfl, e2, e3⟩ := r.lst
      exact ⟨a, ys, rfl, .inl ⟨SqL.of e2, fun l hl => k _ _ _ h (same_new hl) (.tup upd_same (e3.mono (.new hl)))⟩⟩
    · obtain ⟨a, ys, rfl, e2, e3⟩ := r.tup
      exact ⟨a, ys, rfl, .inr ⟨SqT.of e2, k _ _ _ h (fun _ _ e => e) (.tup e2 e3)⟩⟩
    · exact h.elim
  · exact h.elim
theorem do_tupOf (hg : Gl X "tuple") (hm : X.mg "tuple" = none) (ha : DO X e ta) (he : starEach [e] X.env = (false, eval e X.env) :: starEach [] X.env := by rfl) : DO X (.Call (.Name "tuple" p) [e] [] pos) (dB1 (g1 gTupOf) (dCons ta dNil)) :=
  do_callTy call_tuple_of fit_tupOf hg hm (by decide +kernel) (da_cons ha da_nil he) (by decide) (by decide) he
end

/-! ### min and max of one list or tuple of integers -/
def intsOf : List PyData → Option (List Int)
  | [] => some []
  | .int i :: ds => (intsOf ds).map (i :: ·)
  | _ :: _ => none
theorem ints_is {O : Addr → Prop} {H : Hp} : ∀ {ds : List PyData} {xs : List V} {is : List Int}, IsAll O H xs ds → intsOf ds = some is → xs = is.map V.int
  | [], xs, is, h, e => by
    cases h
    cases e
    rfl
  | d :: ds, xs, is, h, e => by
    cases h with
    | cons r t =>
      unfold intsOf at e
      split at e
      · rename_i q
        cases q
      · rename_i j ds' q
        cases q
        cases r
        cases e1 : intsOf ds with
        | none => rw [e1] at e; cases e
        | some js =>
          rw [e1] at e
          cases e
          rw [ints_is t e1]
          rfl
      · cases e
/-- a list or a tuple -/
def seq2D : PyData → Option (List PyData)
  | .list ds => some ds
  | .tuple ds => some ds
  | _ => none
def gBestL (f : List Int → Int) : D1 := fun d q => ∃ ds ns, seq2D d = some ds ∧ intsOf ds = some ns ∧ 0 < ns.length ∧ q (.int (f ns))
section
variable {X : Cx} {e : Expr} {ta : DT} {p pos : Pos}
theorem best_of {K : PySem.W.Frag} {O : Addr → Prop} {H : Hp} {x : V} {d : PyData} {ds : List PyData} {ns : List Int} (r : RdB O H x d) (h1 : seq2D d = some ds) (h2 : intsOf ds = some ns) : ∃ a, x = .ref a ∧ (SqL K H a (ns.map V.int) ∨ SqT K H a (ns.map V.int)) := by
  cases d with
  | list l =>
    cases h1
    obtain ⟨a, ys, rfl, e2, e3⟩ := r.lst
    refine ⟨a, rfl, .inl ?_⟩
    rw [← ints_is e3 h2]
    exact SqL.of e2
  | tuple l =>
    cases h1
    obtain ⟨a, ys, rfl, e2, e3⟩ := r.tup
    refine ⟨a, rfl, .inr ?_⟩
    rw [← ints_is e3 h2]
    exact SqT.of e2
  | _ => cases h1
theorem fit_minA {K : PySem.W.Frag} : Fit (rMinA K) (g1 (gBestL minI)) := fun O H xs ds q Q tr rs h k => by
  unfold g1 at h
  split at h
  · rename_i d
    obtain ⟨x, rfl, r⟩ := rdAll1 rs
    obtain ⟨l, ns, h1, h2, h3, h4⟩ := h
    obtain ⟨a, rfl, s⟩ := best_of (K := K) r h1 h2
    exact ⟨a, ns, rfl, s, h3, k _ _ _ h4 (fun _ _ e => e) (.int _)⟩
  · exact h.elim
theorem fit_maxA {K : PySem.W.Frag} : Fit (rMaxA K) (g1 (gBestL maxI)) := fun O H xs ds q Q tr rs h k => by
  unfold g1 at h
  split at h
  · rename_i d
    obtain ⟨x, rfl, r⟩ := rdAll1 rs
    obtain ⟨l, ns, h1, h2, h3, h4⟩ := h
    obtain ⟨a, rfl, s⟩ := best_of (K := K) r h1 h2
    exact ⟨a, ns, rfl, s, h3, k _ _ _ h4 (fun _ _ e => e) (.int _)⟩
  · exact h.elim
theorem do_min1 (hc : X.calm = true) (hg : Gl X "min") (hm : X.mg "min" = none) (ha : DO X e ta) (he : starEach [e] X.env = (false, eval e X.env) :: starEach [] X.env := by rfl) : DO X (.Call (.Name "min" p) [e] [] pos) (dB1 (g1 (gBestL minI)) (dCons ta dNil)) :=
  do_callB (cr_minA hc) fit_minA hg hm (by decide +kernel) (da_cons ha da_nil he) (by decide) (by decide) he
theorem do_max1 (hc : X.calm = true) (hg : Gl X "max") (hm : X.mg "max" = none) (ha : DO X e ta) (he : starEach [e] X.env = (false, eval e X.env) :: starEach [] X.env := by rfl) : DO X (.Call (.Name "max" p) [e] [] pos) (dB1 (g1 (gBestL maxI)) (dCons ta dNil)) :=
  do_callB (cr_maxA hc) fit_maxA hg hm (by decide +kernel) (da_cons ha da_nil he) (by decide) (by decide) he
end
end DL
namespace DL
open PySem PySem.Spec PyProof.Rows L2
/-! ### isinstance of a built-in type -/
def tyD : PyData → String
  | .none => "NoneType"
  | .bool _ => "bool"
  | .int _ => "int"
  | .str _ => "str"
  | .list _ => "list"
  | .tuple _ => "tuple"
  | .dict _ => "dict"
theorem kit_lists (K : PySem.W.Frag) (d : PyData) : PySem.W.kitOne K (.type (tyD d)) (.type "list") = some (tyD d == "list") := by
  cases d <;> rfl
theorem kit_tups (K : PySem.W.Frag) (d : PyData) : PySem.W.kitOne K (.type (tyD d)) (.type "tuple") = some (tyD d == "tuple") := by
  cases d <;> rfl
theorem kit_strs (K : PySem.W.Frag) (d : PyData) : PySem.W.kitOne K (.type (tyD d)) (.type "str") = some (tyD d == "str") := by
  cases d <;> rfl
theorem RdX.ty {K : PySem.W.Frag} {H : Hp} {v : V} {d : PyData} (h : RdX H v d) (nd : ∀ es, d ≠ .dict es) : TyX K H v (.type (tyD d)) := by
  obtain ⟨O, h⟩ := h
  cases h with
  | non => exact .base .non
  | bl b => exact .base (.bl b)
  | int i => exact .base (.int i)
  | str x => exact .base (.str x)
  | lst n r _ => exact .base (.lst r)
  | tup r _ => exact .base (.tup r)
  | dK n r _ => exact absurd rfl (nd _)
  | dT n r _ => exact absurd rfl (nd _)
def noDict : PyData → Bool
  | .dict _ => false
  | _ => true
section
variable {X : Cx} {e : Expr} {ta : DT} {p p2 pos : Pos} {T : Str}
def dIsi (T : String) (ta : DT) : DT := fun ρ q => ta ρ fun o ρ1 => o.rdx ρ1 fun d => noDict d = true ∧ q (.vl (.bool (tyD d == T))) ρ1
theorem do_isi (n : String) (hk : ∀ d, PySem.W.kitOne X.K (.type (tyD d)) (.type n) = some (tyD d == n)) (hg : Gl X "isinstance") (hm : X.mg "isinstance" = none) (hg2 : Gl X T) (hm2 : X.mg T = none) (hv2 : bootBuiltins T = some (.type n)) (ha : DO X e ta)
    (hn2 : T ≠ "__name__" := by decide) (hd2 : (T == ("__debug__" : Str)) = false := by decide)
    (he : starEach [e, .Name T p2] X.env = (false, eval e X.env) :: starEach [.Name T p2] X.env := by rfl) (he2 : starEach [.Name T p2] X.env = (false, eval (.Name T p2) X.env) :: starEach [] X.env := by rfl)
    (hpl : (backTo pos (starEach [.Name T p2] X.env)).any (·.1) = false := by rfl) : DO X (.Call (.Name "isinstance" p) [e, .Name T p2] [] pos) (dIsi n ta) :=
  PE.imp (pe_callB call_isi hg hm (by decide +kernel) (pa_cons ha (pa_cons (pe_bltn (v := .ty n) hg2 hm2 hv2 rfl hn2 hd2) pa_nil he2) he) (by decide) (by decide) he hpl) fun σ H Q ⟨B, ρ, q, R, t, k⟩ => by
  refine ⟨B, ρ, _, R, t, fun o ρ1 v H1 t1 m1 R1 i1 => ?_⟩
  obtain ⟨d, ⟨h1, h2⟩, r⟩ := i1.rdx R1 t1
  exact ⟨v, .ty n, _, _, _, rfl, .ty n, r.ty (fun es e => by rw [e] at h1; cases h1), hk d, k _ _ _ _ h2 m1 R1 (.bl _)⟩
end

/-! ### a def that tells a copy: all its lists new -/
def cpyD : Nat → PyData → Bool
  | _, .none => true
  | _, .bool _ => true
  | _, .int _ => true
  | _, .str _ => true
  | 0, _ => false
  | m + 1, .list ds => decide (ds.length ≤ 16777216) && ds.all (cpyD m)
  | m + 1, .tuple ds => decide (ds.length ≤ 16777216) && ds.all (cpyD m)
  | _ + 1, .dict _ => false
def spCopy (m : Nat) : Sp := fun vs H Q _ => ∃ v d, vs = [v] ∧ RdX H v d ∧ cpyD m d = true ∧ ∀ v' H', Same H H' → Is (fun b => H b ≠ none) H' v' d → Q v' H'
theorem Same.trans' {H H' H'' : Hp} (a : Same H H') (b : Same H' H'') : Same H H'' := fun x o e => b x o (a x o e)
theorem IsAll.weak {O O' : Addr → Prop} {H : Hp} (h : ∀ b, O' b → O b) {vs : List V} {ds : List PyData} (i : IsAll O H vs ds) : IsAll O' H vs ds := i.mono (Adv.sub h)
/-- the list of the copies of what the value at i has -/
def tCopies (i m : Nat) : TE := fun σ H Q => ∃ v d ds, 1 < σ.length ∧ σ[i]? = some (some v) ∧ RdX H v d ∧ seq2D d = some ds ∧ ds.length ≤ 16777216 ∧ ds.all (cpyD m) = true ∧
  ∀ p xs H', H p = none → Same H H' → H' p = some (.lst xs) → IsAll (fun b => H b ≠ none ∨ b = p) H' xs ds → Q (.ref p) H'
theorem seq_of2 {d : PyData} {ds : List PyData} (h : seq2D d = some ds) : seqD d = some ds := by
  cases d <;> first | exact h | cases h
theorem up_copies {K : PySem.W.Frag} {i j m : Nat} {σ : L2.St} {H : Hp} {Q : VK} (hj : j ≤ 1) (h : tCopies i m σ H Q) :
    tLc (iAnyV K (tVar i)) (gName j) tYes (tCall (spCopy m) [] E0 (tCons (tVar j) tNil)) [j] σ H Q := by
  obtain ⟨v, d, ds, h0, h1, ⟨O, is⟩, h3, h4, h5, k⟩ := h
  have hj : j < σ.length := Nat.lt_of_le_of_lt hj h0
  obtain ⟨z, xs0, ev, hq, src⟩ := src_any (K := K) is (seq_of2 h3)
  refine ⟨v, h1, z, xs0, ev, hq, fun D hD => ?_⟩
  refine ⟨fun i' m' H' => i' ≤ ds.length ∧ m' = ds.length - i' ∧ Same H H' ∧ ∃ acc, H' D = some (.lst acc) ∧ IsAll (fun b => H b ≠ none ∨ b = D) H' acc (ds.take i'), ⟨ds.length, Nat.zero_le _, rfl, same_new hD, [], upd_same, .nil⟩, ?_⟩
  rintro i' m' H2 ⟨hi, rfl, hs, acc, hD2, all⟩
  obtain ⟨s1, s2⟩ := src i' O H2 (.same hs)
  by_cases hlt : i' < ds.length
  · obtain ⟨go, yl⟩ := s1 ds[i'] (List.getElem?_eq_getElem hlt)
    refine .inr ⟨go, fun H' => Same H H' ∧ ∃ acc, H' D = some (.lst acc) ∧ IsAll (fun b => H b ≠ none ∨ b = D) H' acc (ds.take (i' + 1)), fun H' ⟨g1, acc', g2, g3⟩ => ⟨ds.length - (i' + 1), by omega, hlt, rfl, g1, acc', g2, g3⟩, fun x H3 hy => ?_⟩
    obtain ⟨hs3, isx⟩ := yl x H3 hy
    show L2.wipe ((L2.wipe σ [j]).set j (some x)) [j] = L2.wipe σ [j] ∧ _
    refine ⟨wipe_only (vs := [j]) (fun k' hk => ?_) (by rw [List.length_set]), ?_⟩
    · exact List.getElem?_set_ne fun e => hk (by simp [e])
    · have sl : (L2.wipe σ [j]).length = σ.length := wipe_length _ _
      have e0 : ((L2.wipe σ [j]).set j (some x))[j]? = some (some x) := by rw [List.getElem?_set_self (by rw [sl]; exact hj)]
      have cd : cpyD m ds[i'] = true := List.all_eq_true.mp h5 _ (List.getElem_mem hlt)
      refine ⟨x, e0, x, ds[i'], rfl, ⟨O, isx⟩, cd, fun y H4 hs4 isy => ?_⟩
      have hD4 : H4 D = some (.lst acc) := hs4 _ _ (hs3 _ _ hD2)
      have la : acc.length = i' := by rw [all.length, List.length_take]; omega
      have s04 : Same H H4 := Same.trans' hs (Same.trans' hs3 hs4)
      refine ⟨acc, hD4, by rw [la, sizeLine_eq]; omega, fun b o e => ?_, acc ++ [y], upd_same, ?_⟩
      · have ne : b ≠ D := fun z => by rw [z, hD] at e; cases e
        rw [upd_ne ne]
        exact s04 b o e
      · have ad : ∀ (O' : Addr → Prop), O' D → Adv O' O' H4 (upd H4 D (.lst (acc ++ [y]))) := fun O' hO => by
          refine ⟨fun b o e kk => ?_, fun _ _ _ z => z⟩
          have ne : b ≠ D := fun z => by
            subst z
            rcases kk with kk | kk
            · exact kk hO
            · rw [hD4] at e; cases e; cases kk
          rw [upd_ne ne]
          exact e
        have all4 : IsAll (fun b => H b ≠ none ∨ b = D) H4 acc (ds.take i') := (all.mono (.same hs3)).mono (.same hs4)
        have y4 : Is (fun b => H b ≠ none ∨ b = D) H4 y ds[i'] := isy.mono (Adv.sub fun b z => by
          rcases z with z | z
          · cases e : H b with
            | none => exact absurd e z
            | some o => rw [hs3 _ _ (hs b o e)]; simp
          · rw [z, hs3 _ _ hD2]; simp)
        rw [List.take_succ_eq_append_getElem hlt]
        exact (all4.mono (ad _ (.inr rfl))).append (.cons (y4.mono (ad _ (.inr rfl))) .nil)
  · have e : ds.take i' = ds := List.take_of_length_le (by omega)
    rw [e] at all
    exact .inl ⟨s2 (by omega), k D acc H2 hD hs hD2 all⟩
section
variable {X : Cx} {pos p1 p2 p3 p4 p5 : Pos} {k m : Nat} {f : Addr} {fd : FuncData} {ps : List Str} {fnm x y : Str} {scope : Scope} {own : List (Str × Nat)}
theorem pe_copies (hc : X.calm = true) (hN : X.N.Nodup) (h0 : X.N[0]? = some x) (h1 : X.N[1]? = some y) (hx : PE X (.Name x p5) (tVar 0)) (ok : BlkOk X.N X.env.scope scope [(y, 1)])
    (hg : ∀ (s : Shared) (H : Hp) (C : Addr) (cl : List (Str × Addr)) (fp : List Addr), PG (X.blk s H scope (compEnvC scope cl C X.env) fp) (.Name y p4) (gName 1))
    (he : ∀ (s : Shared) (H : Hp) (C : Addr) (cl : List (Str × Addr)) (fp : List Addr), PE (X.blk s H scope (compEnvC scope cl C X.env) fp) (.Call (.Name fnm p1) [.Name y p2] [] p3) (tCall (spCopy m) [] E0 (tCons (tVar 1) tNil))) (hs : ∀ z, foldedSetIterable (.Name x p5) X.env z = pure z := by intro _; rfl) :
    PE X (.ListComp (.Call (.Name fnm p1) [.Name y p2] [] p3) [⟨.Name y p4, .Name x p5, [], 0⟩] scope pos) (tCopies 0 m) :=
  PE.imp (pe_lc (own := [(y, 1)]) hc hN (pi_any hx) ok hg (fun _ _ _ _ _ => pts_nil) he hs) fun σ H Q h => up_copies (K := X.K) (Nat.le_refl _) h
def tIsi (n : String) (i : Nat) : TE := fun σ H Q => ∃ v d, σ[i]? = some (some v) ∧ RdX H v d ∧ noDict d = true ∧ Q (.bl (tyD d == n)) H
theorem pe_isi {T : Str} {i : Nat} (n : String) (hk : ∀ d, PySem.W.kitOne X.K (.type (tyD d)) (.type n) = some (tyD d == n)) (hg : Gl X "isinstance") (hm : X.mg "isinstance" = none) (hg2 : Gl X T) (hm2 : X.mg T = none) (hv2 : bootBuiltins T = some (.type n)) (hx : PE X (.Name x p1) (tVar i))
    (hn2 : T ≠ "__name__" := by decide) (hd2 : (T == ("__debug__" : Str)) = false := by decide)
    (he : starEach [.Name x p1, .Name T p2] X.env = (false, eval (.Name x p1) X.env) :: starEach [.Name T p2] X.env := by rfl) (he2 : starEach [.Name T p2] X.env = (false, eval (.Name T p2) X.env) :: starEach [] X.env := by rfl)
    (hpl : (backTo pos (starEach [.Name T p2] X.env)).any (·.1) = false := by rfl) : PE X (.Call (.Name "isinstance" p3) [.Name x p1, .Name T p2] [] pos) (tIsi n i) :=
  PE.imp (pe_callB call_isi hg hm (by decide +kernel) (pa_cons hx (pa_cons (pe_bltn (v := .ty n) hg2 hm2 hv2 rfl hn2 hd2) pa_nil he2) he) (by decide) (by decide) he hpl) fun σ H Q ⟨v, d, e, r, nd, q⟩ =>
    ⟨v, e, v, .ty n, _, _, _, rfl, .ty n, r.ty (fun es z => by rw [z] at nd; cases nd), hk d, q⟩
/-- the reading of the body -/
def tCopyBody (m : Nat) : TS := fun D σ H => ∃ v d, 1 < σ.length ∧ σ[0]? = some (some v) ∧ RdX H v d ∧ cpyD m d = true ∧ ∀ v' H', Same H H' → Is (fun b => H b ≠ none) H' v' d → D.rt v' H'
def rTupOf (K : PySem.W.Frag) : List V → Hp → VK → Prop := fun xs H Q => ∃ p ys, xs = [.ref p] ∧ ((SqL K H p ys ∧ ∀ l, H l = none → Q (.ref l) (upd H l (.tup ys))) ∨ (SqT K H p ys ∧ Q (.ref p) H))
def tCopyCode (K : PySem.W.Frag) (t1 t2 : TS) : TS := tSeq (tIfS (tB (tIsi "list" 0)) t1 tNext) (tSeq (tIfS (tB (tIsi "tuple" 0)) t2 tNext) (tRet (tVar 0)))
theorem up_copy0 {K : PySem.W.Frag} {D : Ends} {σ : L2.St} {H : Hp} (h : tCopyBody 0 D σ H) : tCopyCode K (fun _ _ _ => False) (fun _ _ _ => False) D σ H := by
  obtain ⟨v, d, h0, h1, ⟨O, is⟩, h3, k⟩ := h
  have fl : flat d = true ∧ noDict d = true ∧ (tyD d == "list") = false ∧ (tyD d == "tuple") = false := by
    cases d <;> first | exact ⟨rfl, rfl, rfl, rfl⟩ | cases h3
  obtain ⟨f1, f2, f3, f4⟩ := fl
  refine ⟨v, d, h1, ⟨O, is⟩, f2, _, rfl, ?_⟩
  rw [f3]
  refine ⟨v, d, h1, ⟨O, is⟩, f2, _, rfl, ?_⟩
  rw [f4]
  exact ⟨v, h1, k v H (fun _ _ e => e) (is.flat_any f1)⟩
theorem up_copy1 {K : PySem.W.Frag} {m : Nat} {D : Ends} {σ : L2.St} {H : Hp} (h : tCopyBody (m + 1) D σ H) : tCopyCode K (tRet (tCopies 0 m)) (tRet (tCB (rTupOf K) (tCons (tCopies 0 m) tNil))) D σ H := by
  obtain ⟨v, d, h0, h1, ⟨O, is⟩, h3, k⟩ := h
  have scal : flat d = true → (tyD d == "list") = false → (tyD d == "tuple") = false → noDict d = true → tCopyCode K (tRet (tCopies 0 m)) (tRet (tCB (rTupOf K) (tCons (tCopies 0 m) tNil))) D σ H := fun f1 f3 f4 f2 => by
    refine ⟨v, d, h1, ⟨O, is⟩, f2, _, rfl, ?_⟩
    rw [f3]
    refine ⟨v, d, h1, ⟨O, is⟩, f2, _, rfl, ?_⟩
    rw [f4]
    exact ⟨v, h1, k v H (fun _ _ e => e) (is.flat_any f1)⟩
  cases d with
  | none => exact scal rfl rfl rfl rfl
  | bool b => exact scal rfl rfl rfl rfl
  | int b => exact scal rfl rfl rfl rfl
  | str b => exact scal rfl rfl rfl rfl
  | dict es => cases h3
  | list ds =>
    simp only [cpyD, Bool.and_eq_true, decide_eq_true_eq] at h3
    refine ⟨v, _, h1, ⟨O, is⟩, rfl, _, rfl, ?_⟩
    refine ⟨v, _, ds, h0, h1, ⟨O, is⟩, rfl, h3.1, h3.2, fun p xs H' hp hs hx all => ?_⟩
    exact k _ _ hs (.lst (fun z => z hp) hx (all.weak fun b z => .inl z))
  | tuple ds =>
    simp only [cpyD, Bool.and_eq_true, decide_eq_true_eq] at h3
    refine ⟨v, _, h1, ⟨O, is⟩, rfl, _, rfl, ?_⟩
    refine ⟨v, _, h1, ⟨O, is⟩, rfl, _, rfl, ?_⟩
    refine ⟨v, _, ds, h0, h1, ⟨O, is⟩, rfl, h3.1, h3.2, fun p xs H' hp hs hx all => ?_⟩
    refine ⟨p, xs, rfl, .inl ⟨SqL.of hx, fun l hl => ?_⟩⟩
    exact k _ _ (Same.trans' hs (same_new hl)) (.tup upd_same ((all.weak fun b z => .inl z).mono (.new hl)))
end
/-- the whole def: COPY its statement -/
theorem copy_ok {P : Program} {w : World} {K : PySem.W.Frag} {mg : Str → Option Value} {base : Heap} {f : Addr} {fd : FuncData} {x qual : Str} {params : Arguments} {body : List Stmt} {scope : Scope} (Fn : FunD K x qual params body scope [] [] f fd) (S : FnScope ["thing", "entry"] ["thing"] scope)
    (h0 : ∀ (cdv : Value) (A : Around) (outer : List Env) (s : Shared) (H : Hp) (E : XK), PSs (cxOf CX0 P w K mg base ["thing", "entry"] qual scope f cdv A outer s H E).nox body (tCopyCode K (fun _ _ _ => False) (fun _ _ _ => False)))
    (h1 : ∀ (m : Nat), FnOk P w K mg base CX0 (m + 1) f fd ["thing"] (spCopy m) → ∀ (cdv : Value) (A : Around) (outer : List Env) (s : Shared) (H : Hp) (E : XK), Room (m + 1) (A.deeper (envOfC qual scope s.heap.objs.size f cdv)) →
      PSs (cxOf CX0 P w K mg base ["thing", "entry"] qual scope f cdv A outer s H E).nox body (tCopyCode K (tRet (tCopies 0 m)) (tRet (tCB (rTupOf K) (tCons (tCopies 0 m) tNil))))) :
    ∀ m, FnOk P w K mg base CX0 (m + 1) f fd ["thing"] (spCopy m) := by
  have len : ∀ m vs H Q E, spCopy m vs H Q E → vs.length = ["thing"].length := fun m vs H Q E ⟨v, d, e, _⟩ => by rw [e]; rfl
  have st : ∀ {m : Nat} {vs : List V} {H : Hp} {Q : VK} {E : XK}, spCopy m vs H Q E → tCopyBody m { nx := fun _ H' => Q .non H', rt := Q } (L2.start ["thing", "entry"] vs) H := fun {m vs H Q E} ⟨v, d, e, r, c, k⟩ => by
    subst e
    exact ⟨v, d, by show 1 < 2; omega, rfl, r, c, k⟩
  intro m
  induction m with
  | zero => exact Fn.ok S (len 0) fun cdv A outer s H vs Q E hr h => ⟨_, PSs.nox (h0 cdv A outer s H E), up_copy0 (st h)⟩
  | succ m ih => exact Fn.ok S (len (m + 1)) fun cdv A outer s H vs Q E hr h => ⟨_, PSs.nox (h1 m ih cdv A outer s H E hr), up_copy1 (st h)⟩

/-! ### y = copied(x) -/
section
variable {X : Cx} {e : Expr} {ta : DT} {pos p : Pos} {x : Str} {k m : Nat} {f : Addr} {fd : FuncData} {ps : List Str}
def sSetCopy (i m : Nat) (ta : DT) : DTS := fun E ρ => ta ρ fun o ρ1 => o.rdx ρ1 fun d => cpyD m d = true ∧ putN i d ρ1 E.nx
theorem ds_setCopy {i : Nat} {y : Str} {pos' spos : Pos} (G : FnOk X.prog X.w X.K X.mg X.base CX0 k f fd ps (spCopy m)) (hr : Room k X.A) (hg : Gl X x) (hm : X.mg x = some (.ref f)) (hk : PySem.W.keepIn X.K (.ref f) = true) (hb : Binds X.K fd ps [])
    (ha : DO X e ta) (hN : X.N.Nodup) (hi : X.N[i]? = some y) (hy : Loc X.env.scope y) (hdb : (x == ("__debug__" : Str)) = false := by decide) (he : starEach [e] X.env = (false, eval e X.env) :: starEach [] X.env := by rfl) (hpl : (backTo pos (starEach [] X.env)).any (·.1) = false := by rfl)
    (hs : swapsWith (.Call (.Name x p) [e] [] pos) (some (.Name y pos')) spos.line X.env = pure false := by rfl) (hf : X.fn y = true ∨ X.env.scope.names.lookup y = some .local := by first | exact .inl rfl | exact .inr rfl | assumption) :
    DS X (.Assign [.Name y pos'] (.Call (.Name x p) [e] [] pos) spos) (sSetCopy i m ta) := PS.imp (ps_set hN hi hy (pe_call G hr hg hm hk hb .nil pass0 (pa_cons ha pa_nil he) hdb he hpl) hs hf) fun D σ H ⟨B, ρ, E, R, t, k⟩ => by
  refine ⟨B, ρ, _, R, t, fun o ρ1 v H1 t1 m1 R1 i1 => ?_⟩
  obtain ⟨d, ⟨h1, h2⟩, r⟩ := i1.rdx R1 t1
  refine ⟨v, d, rfl, r, h1, fun v' H' hs hv => ?_⟩
  obtain ⟨ρ2, h3, R2, m2⟩ := putN_rep R1 hs hv h2
  exact k.nx _ _ _ h3 (m1.trans m2) R2
end
end DL
namespace DL
open PySem PySem.Spec PyProof.Rows L2
/-! ### x[j].reverse(), x a copy -/
theorem flats_set0 {ds : List PyData} {j : Nat} {d d' : PyData} : flats (d :: ds) = (flat d && flats ds) := rfl
theorem IsAll.alter {O O' : Addr → Prop} {H H' : Hp} (keep : ∀ v d, flat d = true → Is O H v d → Is O' H' v d) : ∀ {xs : List V} {ds : List PyData} {j : Nat} {x : V} {d' : PyData}, IsAll O H xs ds → flats (ds.set j .none) = true → xs[j]? = some x → Is O' H' x d' → IsAll O' H' xs (ds.set j d')
  | _, _, _, _, _, .nil, _, e, _ => by simp at e
  | _, _, 0, x, d', .cons r t, f, e, i => by
    simp only [List.set_cons_zero, flats, Bool.and_eq_true] at f
    simp only [List.getElem?_cons_zero, Option.some.injEq] at e
    subst e
    have go : ∀ {xs : List V} {ds : List PyData}, IsAll O H xs ds → flats ds = true → IsAll O' H' xs ds := by
      intro xs ds h
      induction xs generalizing ds with
      | nil => intro _; cases h; exact .nil
      | cons y ys ih =>
        intro g
        cases h with
        | cons a b =>
          simp only [flats, Bool.and_eq_true] at g
          exact .cons (keep _ _ g.1 a) (ih b g.2)
    exact .cons i (go t f.2)
  | _, _, j + 1, x, d', .cons r t, f, e, i => by
    simp only [List.set_cons_succ, flats, Bool.and_eq_true] at f
    exact .cons (keep _ _ f.1 r) (IsAll.alter keep t f.2 (by simpa using e) i)
section
variable {X : Cx} {x : Str}
def sDeepRev (i : Nat) (j : Nat) : DTS := fun E ρ => match ρ[i]? with
  | some (some (.deep P (.tuple ds))) => ∃ l, ds[j]? = some (.list l) ∧ flats l = true ∧ flats (ds.set j .none) = true ∧ E.nx (ρ.set i (some (.deep P (.tuple (ds.set j (.list l.reverse))))))
  | _ => False
theorem ds_deepRev {i j : Nat} {kk : Nat} {p1 p2 p apos cpos pos : Pos} (hx : PE X (.Name x p) (tVar i))
    (hbase : attributeBase (.Subscript (.Name x p) (.Constant (.int (j : Nat)) kk p1) p2) "reverse" X.env (eval (.Subscript (.Name x p) (.Constant (.int (j : Nat)) kk p1) p2) X.env) = eval (.Subscript (.Name x p) (.Constant (.int (j : Nat)) kk p1) p2) X.env := by rfl)
    (hline : (apos.endLine == cpos.line) = true := by rfl)
    (hsw : swapsWith (.Call (.Attribute (.Subscript (.Name x p) (.Constant (.int (j : Nat)) kk p1) p2) "reverse" apos) [] [] cpos) none pos.line X.env = pure false := by rfl) (hp : PlainIx (.Constant (.int (j : Nat)) kk p1) := by exact fun _ _ => rfl) :
    DS X (.Expr (.Call (.Attribute (.Subscript (.Name x p) (.Constant (.int (j : Nat)) kk p1) p2) "reverse" apos) [] [] cpos) pos) (sDeepRev i j) :=
  PS.imp (ps_expr (pe_bm0 PySem.F.plainAttrs_list PySem.F.slot_list_reverse PySem.F.type_list_reverse mt_reverse (pe_ix ix_seq hx pe_int hp) hbase hline) hsw) fun D σ H ⟨B, ρ, E, R, t, k⟩ => by
  unfold sDeepRev at t
  split at t
  · rename_i P ds h0
    obtain ⟨l, hl, f1, f2, t⟩ := t
    obtain ⟨v, h1, h2⟩ := R.cel i _ h0
    obtain ⟨a, xs, rfl, g1, g2⟩ := Is.tup' (show Is (fun b => ¬ P b) H v (.tuple ds) from h2)
    obtain ⟨w, e1, e2⟩ := g2.get hl
    cases e2 with
    | @lst q ys _ n r all =>
      have Pq : P q := Classical.byContradiction n
      obtain ⟨⟨oo, ho, ht⟩, hb, hm⟩ := R.adr i _ q h0 Pq
      refine ⟨_, h1, .inr (.inl ⟨a, xs, (j : Nat), .ref q, rfl, rfl, SqT.of g1, atI_nat e1, ?_⟩)⟩
      refine ⟨.inl ⟨rfl, ys, SqL.of r⟩, q, ys, rfl, rfl, r, ?_⟩
      have nt : ∀ b o, H b = some o → isTup o = true → b ≠ q := fun b o e kk z => by
        subst z; rw [r] at e; cases e; cases kk
      have ow : ∀ b, OW B (ρ.set i (some (.deep P (.tuple (ds.set j (.list l.reverse)))))) b → OW B ρ b := fun b z => z.elim .inl fun z => (owns_set z).elim (fun ⟨_, e, z⟩ => by cases e; exact .inr ⟨i, _, h0, z⟩) .inr
      have m : Adv (OW B ρ) (OW B (ρ.set i (some (.deep P (.tuple (ds.set j (.list l.reverse))))))) H (upd H q (.lst ys.reverse)) := by
        refine ⟨fun b o e kk => ?_, fun b o e kk z => kk (ow b z)⟩
        have ne : b ≠ q := by
          rintro rfl
          rcases kk with kk | kk
          · exact kk (.inr ⟨i, _, h0, Pq⟩)
          · exact nt _ o e kk rfl
        rw [upd_ne ne]
        exact e
      have keep : ∀ v d, flat d = true → Is (fun b => ¬ P b) H v d → Is (fun b => ¬ P b) (upd H q (.lst ys.reverse)) v d := fun v d f i => by
        have i1 : Is (fun b => b = q) H v d := i.flat_any f
        have i2 : Is (fun b => b = q) (upd H q (.lst ys.reverse)) v d := i1.mono ⟨fun b o e kk => by
          have ne : b ≠ q := by
            rintro rfl
            rcases kk with kk | kk
            · exact kk rfl
            · exact nt _ o e kk rfl
          rw [upd_ne ne]
          exact e, fun _ _ _ z => z⟩
        exact i2.flat_any f
      have fl : ∀ {xs : List V} {ds : List PyData}, IsAll (fun b => ¬ P b) H xs ds → flats ds = true → IsAll (fun b => ¬ P b) (upd H q (.lst ys.reverse)) xs ds := by
        intro xs ds h
        induction xs generalizing ds with
        | nil => intro _; cases h; exact .nil
        | cons y ys ih =>
          intro g
          cases h with
          | cons a b =>
            simp only [flats, Bool.and_eq_true] at g
            exact .cons (keep _ _ g.1 a) (ih b g.2)
      have inner : Is (fun b => ¬ P b) (upd H q (.lst ys.reverse)) (.ref q) (.list l.reverse) := .lst n upd_same (fl all f1).reverse
      have na : a ≠ q := nt a _ g1 rfl
      have whole : Is (fun b => ¬ P b) (upd H q (.lst ys.reverse)) (.ref a) (.tuple (ds.set j (.list l.reverse))) := .tup (by rw [upd_ne na]; exact g1) (g2.alter keep f2 e1 inner)
      have R2 := R.setCell (i := i) (v := .ref a) (c := .deep P (.tuple (ds.set j (.list l.reverse)))) m whole
        (fun b o z e => by
          have ne : b ≠ q := by
            rintro rfl
            exact hb z
          rw [upd_ne ne]; exact e)
        (fun b o e n' e' => by
          have ne : b ≠ q := by
            rintro rfl
            rcases hm with z | z
            · exact n' z
            · rw [z] at e; cases e
          rw [upd_ne ne]; exact e')
        (fun b z => by
          obtain ⟨⟨o, e, tt⟩, z2, z3⟩ := R.adr i _ b h0 z
          refine ⟨?_, z2, z3⟩
          by_cases y : b = q
          · subst y; exact ⟨_, upd_same, rfl⟩
          · exact ⟨o, by rw [upd_ne y]; exact e, tt⟩)
        (fun jj c' b ne hj z y => ne (R.inj jj i c' _ b hj h0 z y))
        (fun b o e kk => by rw [upd_ne (nt b o e kk)]; exact e)
        (fun jj c' b o ne hj z e => by
          have nb : b ≠ q := by
            rintro rfl
            exact ne (R.inj jj i c' _ b hj h0 z Pq)
          rw [upd_ne nb]; exact e)
      rw [set_same h1] at R2
      exact k.nx _ _ _ t m R2
  · exact t.elim
end
end DL
namespace DL
open PySem PySem.Spec PyProof.Rows L2
/-! ### {k: v}, k a tuple -/
def tDisp1T (tk tv : TE) : TE := fun σ H Q => ∀ p, H p = none → tk σ (upd H p (.dT [])) fun x H1 => tv σ H1 fun y H2 => ∃ b k, x = .ref b ∧ H2 b = some (.tup (k.map kV)) ∧ H2 p = some (.dT []) ∧ Q (.ref p) (upd H2 p (.dT (putK [] k y)))
section
variable {X : Cx} {pos : Pos} {ke ve : Expr} {tk tv : TE}
theorem pe_disp1T (hu : X.A.units + 1 < cLine) (hk : PE X ke tk) (hv : PE X ve tv) : PE X (.Dict [some ke] [ve] pos) (tDisp1T tk tv) := by
  refine ⟨fun pins s σ H Q I q => ?_⟩
  have hn := I.hok.fresh (Nat.le_refl s.heap.objs.size)
  have I1 := I.laid (a := s.heap.objs.size) (o := .dT []) (h' := s.heap.push { cls := .type "dict", data := .dict #[] }) (t' := s.toks) (fun _ _ q => Heap.get?_push_of_some _ q) (Nat.le_refl _) (dt_empty s.heap I.big)
  have hl := pairTrees_length [some ke] [ve] X.env pos rfl rfl
  rw [arm_eval_Dict, zip_pairTrees [some ke] [ve] X.env pos rfl rfl, dictDisplay_pairs (pairTrees [some ke] [ve] X.env pos) (fun e => by rw [e] at hl; cases hl) (by rw [hl]; exact Nat.le_of_ble_eq_true rfl)]
  refine wpAny_bind (wpAny_standAt (wpAny_bind (wpAny_subDictH (knd := tupleKind (mixKind X.prog X.w)) (show X.A.units < cLine by omega) (by rw [hl]; exact Nat.le_of_ble_eq_true rfl) ?_)))
  refine pairTrees_cons_walk (thn (hk.run pins _ σ _ _ I1 (q _ hn)) fun u s1 ⟨x, H1, J1, rx, q1⟩ => thn (hv.run pins s1 σ H1 _ J1 q1) fun w2 s2 ⟨y, H2, J2, ry, b, k, ex, hb, hp, q2⟩ => pairTrees_nil_walk ?_)
  subst ex
  obtain rfl : u = Value.ref b := rx
  obtain ⟨z, hd, xs, rel, dd⟩ := dt_of J2.hok hp
  cases rel
  refine ⟨[(k, b, w2)], ⟨rfl, rfl, key_of J2.hok hb, True.intro⟩, dd, fun h' tk dd' hs => wpAny_pure ⟨.ref s.heap.objs.size, _, ?_, rfl, q2⟩⟩
  have lk : (putK ([] : List (List Key × V)) k y).length ≤ sizeLine := by
    have := length_putK ([] : List (List Key × V)) k y
    rw [sizeLine_eq]
    simp at this
    omega
  obtain ⟨qq, es, ep, hq, h2, h3, h4, _, h5⟩ := dd'
  have r1 : KT H2 (putK [] k y) (storedH [] k b w2) := KT.put (show KT H2 [] [] from .nil) k hb ry
  have J3 : Inv X pins σ (upd H2 s.heap.objs.size (.dT (putK [] k y))) { s2 with heap := h' } := d_write J2 (by rw [hp]; exact True.intro) hs ⟨qq, hq⟩ ⟨lk, hd, _, KT.keeps r1 fun c ys ec => ?_, qq, es, ep, hq, h2, h3, h4, h5⟩
  exact J3.tok _
  all_goals (rw [upd_ne (ne_of ec hp (fun z => nomatch z))]; exact ec)
end
end DL
namespace DL
open PySem PySem.Spec PyProof.Rows L2
/-! ### dicts with tuples as keys, on data -/
def keysEq : List PyData → List PyData → Bool
  | [], [] => true
  | a :: r, b :: s => keyB a b && keysEq r s
  | _, _ => false
def keyBT : PyData → PyData → Bool
  | .tuple a, .tuple b => keysEq a b
  | _, _ => false
def isKeyT : PyData → Bool
  | .tuple ds => keysD ds
  | _ => false
theorem keysEq_kD : ∀ (a b : List Key), keysEq (a.map kD) (b.map kD) = decide (a = b)
  | [], [] => rfl
  | [], b :: s => by simp [keysEq]
  | a :: r, [] => by simp [keysEq]
  | a :: r, b :: s => by
    show (keyB (kD a) (kD b) && keysEq (r.map kD) (s.map kD)) = _
    rw [keyB_kD, keysEq_kD r s]
    by_cases e : a = b
    · subst e; simp
    · simp [e]
theorem keyBT_k (a b : List Key) : keyBT (kTD a) (kTD b) = decide (a = b) := keysEq_kD a b
theorem keyT_of {O : Addr → Prop} {H : Hp} {v : V} {d : PyData} (h : RdB O H v d) (k : isKeyT d = true) : ∃ b q, v = .ref b ∧ H b = some (.tup (q.map kV)) ∧ d = kTD q := by
  cases d with
  | tuple ds =>
    obtain ⟨a, xs, rfl, e1, is⟩ := h.tup
    obtain ⟨ks, rfl, rfl⟩ := keys_is is k
    exact ⟨a, ks, rfl, e1, rfl⟩
  | _ => cases k
def dGetT (es : List (PyData × PyData)) (k : PyData) : Option PyData := dLook es fun e => keyBT e k
def dPutT (es : List (PyData × PyData)) (k d : PyData) : List (PyData × PyData) :=
  if (es.any fun e => keyBT e.1 k) = true then es.map (fun e => if keyBT e.1 k = true then (e.1, d) else e) else es ++ [(k, d)]
theorem IsT.look {O : Addr → Prop} {H : Hp} {kvs : List (List Key × V)} {es : List (PyData × PyData)} (h : IsT O H kvs es) (q : List Key) :
    (∃ v d, valV kvs q = some v ∧ dGetT es (kTD q) = some d ∧ Is O H v d) ∨ (valV kvs q = none ∧ dGetT es (kTD q) = none) := by
  induction kvs generalizing es with
  | nil => cases h; exact .inr ⟨rfl, rfl⟩
  | cons p r ih =>
    cases h with
    | @consT k v _ d ds i t =>
      by_cases e : k = q
      · refine .inl ⟨v, d, valV_pos (p := (k, v)) e, ?_, i⟩
        show ((List.find? (fun e => keyBT e.1 (kTD q)) ((kTD k, d) :: ds)).map (·.2)) = _
        rw [List.find?_cons_of_pos (by show keyBT (kTD k) (kTD q) = true; rw [keyBT_k]; exact decide_eq_true e)]
        rfl
      · have e1 : valV ((k, v) :: r) q = valV r q := valV_neg (p := (k, v)) e
        have e2 : dGetT ((kTD k, d) :: ds) (kTD q) = dGetT ds (kTD q) := by
          show ((List.find? (fun e => keyBT e.1 (kTD q)) ((kTD k, d) :: ds)).map (·.2)) = _
          rw [List.find?_cons_of_neg (by show ¬ keyBT (kTD k) (kTD q) = true; rw [keyBT_k]; simpa using e)]
          rfl
        rw [e1, e2]
        exact ih t
theorem IsT.any {O : Addr → Prop} {H : Hp} {q : List Key} : ∀ {kvs : List (List Key × V)} {es : List (PyData × PyData)}, IsT O H kvs es → (kvs.any fun kv => decide (kv.1 = q)) = es.any fun e => keyBT e.1 (kTD q)
  | _, _, .nilT => rfl
  | _, _, .consT i t => by
    rw [List.any_cons, List.any_cons, keyBT_k, IsT.any t]
theorem IsT.map {O : Addr → Prop} {H : Hp} {q : List Key} {v : V} {d : PyData} (h : Is O H v d) : ∀ {kvs : List (List Key × V)} {es : List (PyData × PyData)}, IsT O H kvs es →
    IsT O H (kvs.map fun kv => if kv.1 = q then (kv.1, v) else kv) (es.map fun e => if keyBT e.1 (kTD q) = true then (e.1, d) else e)
  | _, _, .nilT => .nilT
  | _, _, .consT (k := k) i t => by
    rw [List.map_cons, List.map_cons]
    by_cases e : k = q
    · rw [if_pos e, if_pos (by show keyBT (kTD k) (kTD q) = true; rw [keyBT_k]; exact decide_eq_true e)]
      exact .consT h (IsT.map h t)
    · rw [if_neg e, if_neg (by show ¬ keyBT (kTD k) (kTD q) = true; rw [keyBT_k]; simpa using e)]
      exact .consT i (IsT.map h t)
theorem IsT.append {O : Addr → Prop} {H : Hp} : ∀ {xs ys : List (List Key × V)} {ds es : List (PyData × PyData)}, IsT O H xs ds → IsT O H ys es → IsT O H (xs ++ ys) (ds ++ es)
  | _, _, _, _, .nilT, s => s
  | _, _, _, _, .consT r t, s => .consT r (IsT.append t s)
theorem IsT.put {O : Addr → Prop} {H : Hp} {kvs : List (List Key × V)} {es : List (PyData × PyData)} (h : IsT O H kvs es) (q : List Key) {v : V} {d : PyData} (i : Is O H v d) : IsT O H (putK kvs q v) (dPutT es (kTD q) d) := by
  unfold putK dPutT
  rw [h.any (q := q)]
  split
  · exact h.map i
  · exact h.append (.consT i .nilT)
theorem IsT.length {O : Addr → Prop} {H : Hp} : ∀ {kvs : List (List Key × V)} {es : List (PyData × PyData)}, IsT O H kvs es → kvs.length = es.length
  | _, _, .nilT => rfl
  | _, _, .consT _ t => congrArg Nat.succ (IsT.length t)
section
variable {O : Addr → Prop} {H : Hp} {v : V}
theorem RdB.dicT {es : List (PyData × PyData)} (h : RdB O H v (.dict ((.none, .none) :: es))) : ∃ a kvs, v = .ref a ∧ Rd H a (.dT kvs) ∧ IsT O H kvs es := by
  rcases h with h | ⟨a, rfl, u, e, h⟩
  · cases h with
    | dK n r t => exact absurd t.kd (by simp [kDict])
    | dT n r t => exact ⟨_, _, rfl, r, t⟩
  · cases h with
    | dK t => exact absurd t.kd (by simp [kDict])
    | dT t => exact ⟨_, _, rfl, .inl e, t⟩
theorem Top.dicT {a : Addr} {es : List (PyData × PyData)} (h : Top O H a (.dict ((.none, .none) :: es))) : ∃ kvs, H a = some (.dT kvs) ∧ IsT O H kvs es := by
  obtain ⟨u, e, h⟩ := h
  cases h with
  | dK t => exact absurd t.kd (by simp [kDict])
  | dT t => exact ⟨_, e, t⟩
end
section
variable {X : Cx} {a b c e i : Expr} {es : List Expr} {ta tb tc tk tv : DT} {t : DTA} {pos : Pos} {x : Str}
def gTGet : D2 := fun d e q => match d with
  | .dict ((.none, .none) :: es) => isKeyT e = true ∧ ∃ r, dGetT es e = some r ∧ q r
  | _ => False
theorem tget_of {O : Addr → Prop} {H : Hp} {y : V} {a : Addr} {kvs : List (List Key × V)} {es : List (PyData × PyData)} {e : PyData} (r : Rd H a (.dT kvs)) (t : IsT O H kvs es) (hy : RdB O H y e) (ke : isKeyT e = true) :
    (∃ v d, DGet H a y (some v) ∧ dGetT es e = some d ∧ Is O H v d) ∨ (DGet H a y none ∧ dGetT es e = none) := by
  obtain ⟨b, k, rfl, eb, rfl⟩ := keyT_of hy ke
  rcases t.look k with ⟨v, d, h1, h2, h3⟩ | ⟨h1, h2⟩
  · exact .inl ⟨v, d, .inr ⟨kvs, k, b, r, rfl, eb, h1.symm⟩, h2, h3⟩
  · exact .inr ⟨.inr ⟨kvs, k, b, r, rfl, eb, h1.symm⟩, h2⟩
theorem fit_tget : Fit2 (fun x y H Q => ∃ a v, x = .ref a ∧ DGet H a y (some v) ∧ Q v H) gTGet := fun O H x y d e q Q _ hx hy h k => by
  unfold gTGet at h
  split at h
  · obtain ⟨ke, r, h1, h2⟩ := h
    obtain ⟨a, kvs, rfl, r1, t1⟩ := hx.dicT
    rcases tget_of r1 t1 hy ke with ⟨v, d, g1, g2, g3⟩ | ⟨g1, g2⟩
    · rw [h1] at g2
      cases g2
      exact ⟨a, v, rfl, g1, k _ _ _ h2 (Same.refl _) g3⟩
    · rw [h1] at g2; cases g2
  · exact h.elim
theorem do_tget (hu : X.A.units + 1 < cLine) (ha : DO X a ta) (hb : DO X b tb) (hs : NoSl b) : DO X (.Subscript a b pos) (d2 gTGet ta tb) := PE.imp (pe_dget hu ha hb hs) fun _ _ _ h => up2 fit_tget h
def gTIn (f : Bool → Bool) : D2 := fun e d q => match d with
  | .dict ((.none, .none) :: es) => isKeyT e = true ∧ q (.bool (f (dGetT es e).isSome))
  | _ => False
theorem fit_tin {f : Bool → Bool} : Fit2 (fun y x H Q => ∃ a o, x = .ref a ∧ DGet H a y o ∧ Q (.bl (f o.isSome)) H) (gTIn f) := fun O H y x e d q Q _ hy hx h k => by
  unfold gTIn at h
  split at h
  · obtain ⟨ke, h2⟩ := h
    obtain ⟨a, kvs, rfl, r1, t1⟩ := hx.dicT
    rcases tget_of r1 t1 hy ke with ⟨v, d, g1, g2, g3⟩ | ⟨g1, g2⟩
    · rw [g2] at h2
      exact ⟨a, some v, rfl, g1, k _ _ _ h2 (Same.refl _) (.bl _)⟩
    · rw [g2] at h2
      exact ⟨a, none, rfl, g1, k _ _ _ h2 (Same.refl _) (.bl _)⟩
  · exact h.elim
theorem do_tin (hu : X.A.units + 1 < cLine) (ha : DO X a ta) (hb : DO X b tb) (hm : behindInMarks .In b = false := by rfl) : DO X (.Compare a [.In] [b] pos) (d2 (gTIn id) ta tb) := PE.imp (pe_cmp (pc_din hu ha hb) hm) fun _ _ _ h => up2 fit_tin h
theorem do_tnotin (hu : X.A.units + 1 < cLine) (ha : DO X a ta) (hb : DO X b tb) (hm : behindInMarks .NotIn b = false := by rfl) : DO X (.Compare a [.NotIn] [b] pos) (d2 (gTIn (!·)) ta tb) := PE.imp (pe_cmp (pc_dnotin hu ha hb) hm) fun _ _ _ h => up2 fit_tin h
theorem dp_tin (hu : X.A.units + 1 < cLine) (ha : DO X a ta) (hb : DO X b tb) (hm : behindInMarks .In b = false := by rfl) : DP X (.Compare a [.In] [b] pos) (dB (d2 (gTIn id) ta tb)) := PT.imp (pt_cmp (pc_din hu ha hb) hm) fun _ _ _ h => up2 fit_tin (upB h)
theorem dp_tnotin (hu : X.A.units + 1 < cLine) (ha : DO X a ta) (hb : DO X b tb) (hm : behindInMarks .NotIn b = false := by rfl) : DP X (.Compare a [.NotIn] [b] pos) (dB (d2 (gTIn (!·)) ta tb)) := PT.imp (pt_cmp (pc_dnotin hu ha hb) hm) fun _ _ _ h => up2 fit_tin (upB h)
/-- d[k] = v -/
def sTPut (i : Nat) (tk tv : DT) : DTS := fun E ρ => tv ρ fun o ρ1 => o.tk ρ1 fun d ρ2 => match ρ2[i]? with
  | some (some (.own _ _)) => tk ρ2 fun ok ρ3 => ok.rd ρ3 fun e => match ρ3[i]? with
    | some (some (.own a (.dict ((.none, .none) :: es)))) => isKeyT e = true ∧ es.length < 16777216 ∧ E.nx (ρ3.set i (some (.own a (.dict ((.none, .none) :: dPutT es e d)))))
    | _ => False
  | _ => False
theorem ds_tput {j : Nat} {p pos' : Pos} (hu : X.A.units + 1 < cLine) (hx : PE X (.Name x p) (tVar j)) (hi : DO X i tk) (hv : DO X e tv) (hs : swapsWith e (some (.Subscript (.Name x p) i pos')) pos.line X.env = pure false := by rfl) :
    DS X (.Assign [.Subscript (.Name x p) i pos'] e pos) (sTPut j tk tv) := PS.imp (ps_dput hu hx hi hv hs) fun D σ H ⟨B, ρ, E, R, t, k⟩ => by
  refine ⟨B, ρ, _, R, t, fun o ρ1 v H1 t1 m1 R1 i1 => ?_⟩
  obtain ⟨d, ρ2, h2, is, R2, m2⟩ := i1.tk R1 t1
  split at h2
  · rename_i a0 d0 h0
    obtain ⟨g1, g2, g3, g4⟩ := R2.own j a0 _ h0
    refine ⟨_, g1, B, ρ2, _, R2, h2, fun ok ρ3 w H3 t3 m3 R3 i3 => ?_⟩
    obtain ⟨ek, h4, r4⟩ := i3.rd R3 t3
    split at h4
    · rename_i a1 es hc
      obtain ⟨ke, hl, nx⟩ := h4
      obtain ⟨f1, f2, f3, f4⟩ := R3.own j a1 _ hc
      rw [g1] at f1
      cases f1
      obtain ⟨kvs, hk, all⟩ := f3.dicT
      obtain ⟨b, q, rfl, eb, rfl⟩ := keyT_of r4 ke
      obtain ⟨R4, m4⟩ := R3.write (u := .dT (putK kvs q v)) hc (.dT (all.put q (is.mono m3)))
      refine ⟨a0, _, rfl, DPut.t hk eb (by rw [all.length, sizeLine_eq]; exact hl), k.nx _ _ _ nx (((m1.trans m2).trans m3).trans m4) R4⟩
    · exact h4.elim
  · exact h2.elim
/-- {k: v} -/
def fT1 (tk tv : DT) : DTF := fun ρ q => tk ρ fun ok ρ1 => tv ρ1 fun ov ρ2 => ok.rd ρ2 fun e => ov.tk ρ2 fun d ρ3 => isKeyT e = true ∧ q (.dict [(.none, .none), (e, d)]) ρ3
theorem dfr_t1 (hu : X.A.units + 1 < cLine) (hk : DO X i tk) (hv : DO X e tv) : DFr X (.Dict [some i] [e] pos) (fT1 tk tv) := PE.imp (pe_disp1T hu hk hv) fun σ H Q ⟨B, ρ, q, R, t, k⟩ => fun p hp => by
  obtain ⟨R1, tp, m1⟩ := R.fresh hp (u := .dT []) (.dT .nilT)
  obtain ⟨e1, e2⟩ := R.entry hp
  refine ⟨(B.plus p).re ρ (upd H p (.dT [])), ρ, _, R1.re, t, fun ok ρ1 v1 H1 t1 m2 R2 i1 => ⟨_, ρ1, _, R2, t1, fun ov ρ2 v2 H2 t2 m3 R3 i2 => ?_⟩⟩
  obtain ⟨ek, t3, r3⟩ := (i1.adv m3).rd R3 t2
  obtain ⟨d, ρ3, ⟨ke, t4⟩, is, R4, m4⟩ := i2.tk R3 t3
  have np : ¬ owns ρ p := fun ⟨i, c, h, z⟩ => (R1.adr i c p h z).2.1 (.inr rfl)
  have hp2 : H2 p = some (.dT []) := R4.keep p _ upd_same np
  obtain ⟨b, qk, rfl, eb, rfl⟩ := keyT_of r3 ke
  have R5 : Rep (B.plus p) ρ3 σ H2 := R1.unre R4
  obtain ⟨R6, m6⟩ := R5.writeO (p := p) (u := .dT (putK [] qk v2)) (.inr rfl) e2 rfl
  refine ⟨b, qk, rfl, eb, hp2, ?_⟩
  have mm : Adv (OW (B.plus p) ρ) (OW (B.plus p) ρ3) (upd H p (.dT [])) H2 := (m2.trans m3).trans m4
  exact k _ _ _ _ t4 e1 e2 ((m1.trans mm).trans m6) R6 ⟨_, upd_same, .dT (.consT (Is.mono m6 is) .nilT)⟩
end
end DL
namespace DL
open PySem PySem.Spec PyProof.Rows L2
/-! ### text * int -/
def repS (x : List Nat) (k : Int) : List Nat := (List.replicate k.toNat x).flatten
theorem foldl_cat (a : Array Nat) : ∀ (n : Nat) (acc : Array Nat), ((List.replicate n a).foldl (· ++ ·) acc).toList = acc.toList ++ (List.replicate n a.toList).flatten
  | 0, acc => by simp
  | n + 1, acc => by
    rw [List.replicate_succ, List.foldl_cons, foldl_cat a n, List.replicate_succ, List.flatten_cons, Array.toList_append, List.append_assoc]
theorem mul_rep (z : Str) (k : Int) : Txt.mul z k = mk (repS (L z) k) := by
  unfold Txt.mul repS
  by_cases h : k < 1
  · rw [if_pos h, show k.toNat = 0 by omega]
    rfl
  · rw [if_neg h]
    by_cases h1 : (k == 1 || z.length == 0) = true
    · rw [if_pos h1]
      rcases Bool.or_eq_true .. |>.mp h1 with h2 | h2
      · rw [show k = 1 by simpa using h2]
        simp [mk, L]
      · have e : z.cps = #[] := Array.eq_empty_of_size_eq_zero (by simpa [Str.length] using h2)
        have e2 : z = mk [] := by cases z; cases e; rfl
        subst e2
        have : ∀ n : Nat, (List.replicate n (L (mk []))).flatten = [] := fun n => by simp [L_mk]
        rw [this]
    · rw [if_neg h1]
      show (⟨_⟩ : Str) = ⟨_⟩
      congr 1
      rw [← Array.toArray_toList (xs := (List.replicate k.toNat z.cps).foldl (· ++ ·) #[]), foldl_cat]
      simp [L]
def rMulS : R2 := fun x y H Q => ∃ z k, x = .str z ∧ y = .int k ∧ -(2 ^ 63 : Int) ≤ k ∧ k ≤ 16777216 ∧ z.length * k.toNat ≤ 16777216 ∧ Q (.str (mk (repS (L z) k))) H
theorem op_mulS {X : Cx} : OpR X (binaryOp .Mult) rMulS := by
  intro pins s σ H x y v u Q I rx ry h
  obtain ⟨z, k, rfl, rfl, h1, h2, h3, q⟩ := h
  obtain ⟨t, rfl⟩ := rx
  obtain ⟨t', rfl⟩ := ry
  refine SB.mul (PyProof.Rows.mulOk_of z.length k.toNat (Nat.le_refl _) (by omega) h1 (by omega) h3) fun t' tk => ⟨.str (Txt.mul z k), H, I.tok _, ⟨_, rfl⟩, ?_⟩
  rw [mul_rep]
  exact q
section
variable {X : Cx} {a b : Expr} {ta tb : DT} {pos : Pos}
def gMulS : D2 := fun d e q => match d, e with
  | .str z, .int k => 0 ≤ k ∧ k ≤ 16777216 ∧ (L z).length * k.toNat ≤ 16777216 ∧ q (S (repS (L z) k))
  | _, _ => False
theorem fit_mulS : Fit2 rMulS gMulS := fun O H x y d e q Q _ hx hy h k => by
  unfold gMulS at h
  split at h
  · rename_i z j
    refine ⟨z, j, hx.str, hy.int, by omega, h.2.1, ?_, k _ _ _ h.2.2.2 (Same.refl _) (.str _)⟩
    have := h.2.2.1
    rw [L_len] at this
    exact this
  · exact h.elim
theorem do_mulS (ha : DO X a ta) (hb : DO X b tb) : DO X (.BinOp a .Mult b pos) (d2 gMulS ta tb) := do_op op_mulS fit_mulS ha hb
end
/-- what is known of a copying def -/
structure KnowC (P : Program) (w : World) (K : PySem.W.Frag) (mg : Str → Option Value) (base : Heap) (x : Str) (m : Nat) : Prop where
  ex : ∃ (f : Addr) (fd : FuncData), mg x = some (.ref f) ∧ PySem.W.keepIn K (.ref f) = true ∧ L2.Binds K fd ["thing"] [] ∧ FnOk P w K mg base CX0 (m + 1) f fd ["thing"] (spCopy m)
end DL
namespace DL
open PySem PySem.Spec PyProof.Rows L2
/-! ### list + list -/
section
variable {X : Cx} {a b : Expr} {ta tb : DT} {pos : Pos}
def gCat : D2 := fun d e q => match d, e with
  | .list ds, .list es => ds.length + es.length ≤ 16777216 ∧ q (.list (ds ++ es))
  | _, _ => False
theorem fit_cat : Fit2 rCat gCat := fun O H x y d e q Q hO hx hy h k => by
  unfold gCat at h
  split at h
  · rename_i ds es
    obtain ⟨l, xs, rfl, e1, i1⟩ := hx.lst
    obtain ⟨l2, zs, rfl, e2, i2⟩ := hy.lst
    refine ⟨l, l2, xs, zs, rfl, rfl, e1, e2, by rw [i1.length, i2.length, sizeLine_eq]; exact h.1, fun p hp => k _ _ _ h.2 (same_new hp) ?_⟩
    refine .lst (fun z => ?_) upd_same ((i1.append i2).mono (.new hp))
    obtain ⟨o, e⟩ := hO p z
    rw [hp] at e
    cases e
  · exact h.elim
theorem do_cat (ha : DO X a ta) (hb : DO X b tb) : DO X (.BinOp a .Add b pos) (d2 gCat ta tb) := do_op op_cat fit_cat ha hb
end
end DL
namespace DL
open PySem PySem.Spec PyProof.Rows L2
/-! ### dicts that are locked while they are walked -/
def isDct (u : HO) : Prop := (∃ kvs, u = .dK kvs) ∨ ∃ kvs, u = .dT kvs
section
variable {O : Addr → Prop} {H H' : Hp} {a : Addr} {u : HO}
theorem Rd.one {x y : HO} (hx : isDct x) (hy : isDct y) (r : Rd H a x) (s : Rd H a y) : x = y := by
  rcases r with r | ⟨o, r⟩ <;> rcases s with s | ⟨o', s⟩
  · rw [r] at s; cases s; rfl
  · rw [r] at s
    cases s
    rcases hx with ⟨_, e⟩ | ⟨_, e⟩ <;> cases e
  · rw [r] at s
    cases s
    rcases hy with ⟨_, e⟩ | ⟨_, e⟩ <;> cases e
  · rw [r] at s; cases s; rfl
/-- the two heaps are alike but for the lock at a -/
structure ReL (H H' : Hp) (a : Addr) (u : HO) : Prop where
  oth : ∀ b, b ≠ a → H' b = H b
  r1 : Rd H a u
  r2 : Rd H' a u
  dct : isDct u
theorem ReL.plain (z : ReL H H' a u) {b : Addr} {o : HO} (e : H b = some o) (hn : ∀ f x, o ≠ .frz f x) (hd : ¬ isDct o) : H' b = some o := by
  by_cases q : b = a
  · subst q
    rcases z.r1 with r | ⟨f, r⟩
    · rw [e] at r; cases r; exact absurd z.dct hd
    · rw [e] at r; cases r; exact absurd rfl (hn _ _)
  · rw [z.oth b q]; exact e
theorem ReL.rd (z : ReL H H' a u) {b : Addr} {x : HO} (hx : isDct x) (r : Rd H b x) : Rd H' b x := by
  by_cases q : b = a
  · subst q
    rw [Rd.one hx z.dct r z.r1]
    exact z.r2
  · unfold Rd
    rw [z.oth b q]
    exact r
theorem Is.relock (z : ReL H H' a u) {v : V} {d : PyData} (h : Is O H v d) : Is O H' v d := by
  induction h using Is.rec (motive_2 := fun xs ds _ => IsAll O H' xs ds) (motive_3 := fun xs ds _ => IsK O H' xs ds) (motive_4 := fun xs ds _ => IsT O H' xs ds) with
  | non => exact .non
  | bl b => exact .bl b
  | int i => exact .int i
  | str x => exact .str x
  | lst n r _ ih => exact .lst n (z.plain r (fun _ _ e => by cases e) (fun e => by rcases e with ⟨_, e⟩ | ⟨_, e⟩ <;> cases e)) ih
  | tup r _ ih => exact .tup (z.plain r (fun _ _ e => by cases e) (fun e => by rcases e with ⟨_, e⟩ | ⟨_, e⟩ <;> cases e)) ih
  | dK n r _ ih => exact .dK n (z.rd (.inl ⟨_, rfl⟩) r) ih
  | dT n r _ ih => exact .dT n (z.rd (.inr ⟨_, rfl⟩) r) ih
  | nil => exact .nil
  | cons _ _ h1 h2 => exact .cons h1 h2
  | nilK => exact .nilK
  | consK _ _ h1 h2 => exact .consK h1 h2
  | nilT => exact .nilT
  | consT _ _ h1 h2 => exact .consT h1 h2
theorem IsAll.relock (z : ReL H H' a u) : ∀ {vs : List V} {ds : List PyData}, IsAll O H vs ds → IsAll O H' vs ds
  | _, _, .nil => .nil
  | _, _, .cons h t => .cons (h.relock z) (IsAll.relock z t)
theorem IsK.relock (z : ReL H H' a u) : ∀ {vs : List (Key × V)} {ds : List (PyData × PyData)}, IsK O H vs ds → IsK O H' vs ds
  | _, _, .nilK => .nilK
  | _, _, .consK h t => .consK (h.relock z) (IsK.relock z t)
theorem IsT.relock (z : ReL H H' a u) : ∀ {vs : List (List Key × V)} {ds : List (PyData × PyData)}, IsT O H vs ds → IsT O H' vs ds
  | _, _, .nilT => .nilT
  | _, _, .consT h t => .consT (h.relock z) (IsT.relock z t)
theorem Hold.relock (z : ReL H H' a u) {x : HO} {d : PyData} (h : Hold O H x d) : Hold O H' x d := by
  cases h with
  | lst r => exact .lst (r.relock z)
  | dK r => exact .dK (r.relock z)
  | dT r => exact .dT (r.relock z)
end
def Bs.lk (B : Bs) (a : Addr) (x : Option HO) : Bs := { B with H0 := fun b => if b = a then x else B.H0 b }
/-- the lock at a is laid or lifted -/
theorem Rep.relock {B : Bs} {ρ : DEnv} {σ : L2.St} {H H' : Hp} {a : Addr} {u : HO} (R : Rep B ρ σ H) (z : ReL H H' a u) (na : ¬ OW B ρ a) (nl : ∀ (j : Nat) (d : PyData), ρ[j]? ≠ some (some (.lck a d))) {K : Hp} (hK : ∀ b o, K b = some o → ¬ B.mu b → H' b = some o) (hn : ∀ b, b ≠ a → K b = B.H0 b) : Rep { B with H0 := K } ρ σ H' := by
  have ne : ∀ b, OW B ρ b → b ≠ a := fun b h e => na (e ▸ h)
  refine ⟨R.len, fun b h => ?_, fun i c e => ?_, fun i c b e q => ?_, R.inj, hK⟩
  · obtain ⟨o, e, t⟩ := R.trk b h
    exact ⟨o, by rw [z.oth b (ne b (.inl h))]; exact e, t⟩
  · obtain ⟨v, h1, h2⟩ := R.cel i c e
    refine ⟨v, h1, ?_⟩
    cases c with
    | val d => exact Is.relock z h2
    | own b d =>
      obtain ⟨e1, x, e2, e3⟩ := h2
      exact ⟨e1, x, by rw [z.oth b (ne b (.inr ⟨i, _, e, rfl⟩))]; exact e2, e3.relock z⟩
    | deep P d => exact Is.relock z h2
    | grid b as dss =>
      obtain ⟨e1, g⟩ := h2
      have oth : ∀ y, y = b ∨ y ∈ as → H' y = H y := fun y hy => z.oth y (ne y (.inr ⟨i, _, e, hy⟩))
      refine ⟨e1, (oth b (.inl rfl)).trans g.top, g.nod, g.len, fun i p ds h1 h2 => ?_⟩
      obtain ⟨xs, q1, q2, q3⟩ := g.row i p ds h1 h2
      exact ⟨xs, (oth p (.inr (List.mem_of_getElem? h1))).trans q1, q2.relock z, q3⟩
    | lck b d =>
      obtain ⟨e1, n, e2⟩ := h2
      have nb : b ≠ a := fun q => nl i d (by rw [e, q])
      refine ⟨e1, n, ?_⟩
      rcases e2 with ⟨o, kvs, es, e3, e4, e5⟩ | ⟨o, kvs, es, e3, e4, e5⟩
      · exact .inl ⟨o, kvs, es, e3, by rw [z.oth b nb]; exact e4, e5.relock z⟩
      · exact .inr ⟨o, kvs, es, e3, by rw [z.oth b nb]; exact e4, e5.relock z⟩
  · obtain ⟨⟨o, h1, h2⟩, h3, h4⟩ := R.adr i c b e q
    have nb := ne b (.inr ⟨i, c, e, q⟩)
    refine ⟨⟨o, by rw [z.oth b nb]; exact h1, h2⟩, h3, ?_⟩
    rcases h4 with h4 | h4
    · exact .inl h4
    · exact .inr (by show K b = none; rw [hn b nb]; exact h4)
/-- no dict is locked that was not locked -/
def lckS : DEnv → DEnv → Prop
  | _, [] => True
  | ρ, c :: r => (match c with
    | some (.lck a d) => ρ.head? = some (some (.lck a d))
    | _ => True) ∧ lckS ρ.tail r
theorem lckS_at : ∀ {ρ ρ' : DEnv} {j : Nat} {a : Addr} {d : PyData}, lckS ρ ρ' → ρ'[j]? = some (some (.lck a d)) → ρ[j]? = some (some (.lck a d))
  | ρ, [], j, a, d, _, e => by simp at e
  | ρ, c :: r, 0, a, d, h, e => by
    simp at e
    subst e
    have := h.1
    simp only at this
    cases ρ with
    | nil => simp at this
    | cons x ρ => simpa using this
  | ρ, c :: r, j + 1, a, d, h, e => by
    have := lckS_at h.2 (by simpa using e)
    cases ρ with
    | nil => simp at this
    | cons x ρ => simpa using this
def unl (ρ : DEnv) (a : Addr) (d : PyData) (i : Nat) (ρ' : DEnv) (k : DEnv → Prop) : Prop :=
  ρ'[i]? = some (some (.lck a d)) ∧ lckS ρ (ρ'.set i none) ∧ k (ρ'.set i (some (.val d)))
def lockE (ρ : DEnv) (a : Addr) (d : PyData) (i : Nat) (E : DEnds) : DEnds :=
  { nx := fun ρ' => unl ρ a d i ρ' E.nx, rt := fun x ρ' => unl ρ a d i ρ' (E.rt x), bk := fun ρ' => unl ρ a d i ρ' E.bk, ct := fun ρ' => unl ρ a d i ρ' E.ct }
/-- a statement runs while the dict of the name at i is locked -/
def sLock (i : Nat) (t : DTS) : DTS := fun E ρ => match ρ[i]? with
  | some (some (.val (.dict es))) => ∀ a, t (lockE ρ a (.dict es) i E) (ρ.set i (some (.lck a (.dict es))))
  | some (some (.own _ (.dict es))) => ∀ a, t (lockE (ρ.set i (some (.val (.dict es)))) a (.dict es) i E) (ρ.set i (some (.lck a (.dict es))))
  | some (some (.lck _ _)) => t E ρ
  | _ => False
theorem lock_val {X : Cx} {st : Stmt} {t : DTS} (h : DS X st t) {i : Nat} {pins : List (Addr × Obj)} {s : Shared} {σ : L2.St} {H : Hp} {D : Ends} {B : Bs} {ρ : DEnv} {E : DEnds} {es : List (PyData × PyData)} (R : Rep B ρ σ H) (h0 : ρ[i]? = some (some (.val (.dict es))))
    (t0 : ∀ a, t (lockE ρ a (.dict es) i E) (ρ.set i (some (.lck a (.dict es))))) (k : EndsOk B (OW B ρ) H D E) : ((∃ a u, H a = some u ∧ tLock (upS t) D σ H) ∨ upS t D σ H) := by
  obtain ⟨v, hv, is⟩ := R.val i _ h0
  have hl : i < ρ.length := (List.getElem?_eq_some_iff.mp h0).1
  -- what the name holds
  have go : ∀ (a : Addr) (u : HO), v = .ref a → isDct u → ¬ OW B ρ a → Rd H a u → (∀ (O : Addr → Prop) (H2 : Hp), ¬ O a → (∃ f, H2 a = some (.frz f u)) → ReL H H2 a u ∨ H2 = H → (∀ b, O b → OW B ρ b) → Lk O H2 a (.dict es)) → ((∃ a u, H a = some u ∧ tLock (upS t) D σ H) ∨ upS t D σ H) := by
    intro a u ev du na rd mk
    subst ev
    have ow : ∀ (x : PyData) (b : Addr), OW B (ρ.set i (some (.lck a x))) b → OW B ρ b := fun x b z => z.elim .inl fun z => (owns_set z).elim (fun ⟨_, e, z⟩ => by cases e; exact z.elim) .inr
    have owv : ∀ (ρ' : DEnv) (x : PyData) (b : Addr), OW B (ρ'.set i (some (.val x))) b → OW B ρ' b := fun ρ' x b z => z.elim .inl fun z => (owns_set z).elim (fun ⟨_, e, z⟩ => by cases e; exact z.elim) .inr
    rcases rd with rd | ⟨f, rd⟩
    · refine .inl ⟨a, u, rd, a, u, rd, ?_, fun od => ?_⟩
      · rcases du with ⟨_, rfl⟩ | ⟨_, rfl⟩ <;> exact True.intro
      -- the lock is laid
      have z : ReL H (upd H a (.frz od u)) a u := ⟨fun b e => upd_ne e, .inl rd, .inr ⟨od, upd_same⟩, du⟩
      have nl : ∀ (j : Nat) (d : PyData), ρ[j]? ≠ some (some (.lck a d)) := fun j d e => by
        obtain ⟨w, e1, e2, n, e3⟩ := R.cel j _ e
        rcases e3 with ⟨o, kvs, es', _, e4, _⟩ | ⟨o, kvs, es', _, e4, _⟩ <;> (rw [rd] at e4; cases e4; rcases du with ⟨_, q⟩ | ⟨_, q⟩ <;> cases q)
      have R1 := R.relock z na nl (K := fun b => if b = a then (upd H a (.frz od u)) a else B.H0 b) (fun b o e hm => by
        by_cases q : b = a
        · subst q
          simpa using e
        · rw [upd_ne q]
          exact R.keep b o (by simpa [q] using e) hm) (fun b q => by simp [q])
      have m1 : Adv (OW B ρ) (OW B (ρ.set i (some (.lck a (.dict es))))) (upd H a (.frz od u)) (upd H a (.frz od u)) := Adv.sub (ow _)
      have R2 := R1.setCell (i := i) (v := .ref a) (c := .lck a (.dict es)) m1 ⟨rfl, mk _ _ (fun y => na (ow _ _ y)) ⟨od, upd_same⟩ (.inl z) (ow _)⟩ (fun _ _ _ e => e) (fun _ _ _ _ e => e) (fun _ y => y.elim) (fun _ _ _ _ _ _ y => y) (fun _ _ e _ => e) (fun _ _ _ _ _ _ _ e => e)
      rw [set_same hv] at R2
      refine ⟨_, _, _, R2, t0 a, ?_⟩
      -- the lock is lifted
      have back : ∀ {ρ' : DEnv} {σ' : L2.St} {H' : Hp} {kk : DEnv → Prop}, unl ρ a (.dict es) i ρ' kk → Adv (OW B (ρ.set i (some (.lck a (.dict es))))) (OW B ρ') (upd H a (.frz od u)) H' → Rep { B with H0 := fun b => if b = a then (upd H a (.frz od u)) a else B.H0 b } ρ' σ' H' →
          H' a = some (.frz od u) ∧ kk (ρ'.set i (some (.val (.dict es)))) ∧ Adv (OW B ρ) (OW B (ρ'.set i (some (.val (.dict es))))) H (upd H' a u) ∧ Rep B (ρ'.set i (some (.val (.dict es)))) σ' (upd H' a u) ∧ ReL H' (upd H' a u) a u := by
        intro ρ' σ' H' kk ⟨u1, u2, u3⟩ ad R'
        have na2 : ¬ OW B (ρ.set i (some (.lck a (.dict es)))) a := fun y => na (ow _ _ y)
        have ha : H' a = some (.frz od u) := ad.1 a _ upd_same (.inl na2)
        have na3 : ¬ OW B ρ' a := ad.2 a _ upd_same na2
        have z' : ReL H' (upd H' a u) a u := ⟨fun b e => upd_ne e, .inr ⟨od, ha⟩, .inl upd_same, du⟩
        obtain ⟨w, e1, e2, lk⟩ := R'.cel i _ u1
        have ws : σ'[i]? = some (some (.ref a)) := by rw [e1, e2]
        obtain ⟨F1, F2, F3⟩ := R'.freeze u1 ws ((lk.is).mono (Adv.sub fun b y => y.1))
        have nl' : ∀ (j : Nat) (d : PyData), (ρ'.set i (some (.val (.dict es))))[j]? ≠ some (some (.lck a d)) := fun j d e => by
          by_cases q : j = i
          · subst q
            have hl' : j < ρ'.length := (List.getElem?_eq_some_iff.mp u1).1
            rw [List.getElem?_set_self hl'] at e
            cases e
          · rw [List.getElem?_set_ne (Ne.symm q)] at e
            exact nl j d (lckS_at u2 (by rw [List.getElem?_set_ne (Ne.symm q)]; exact e))
        have F4 := F1.relock z' (fun y => na3 (owv _ _ _ y)) nl' (K := B.H0) (fun b o e hm => by
          by_cases q : b = a
          · subst q
            rw [upd_same]
            have := R.keep b o e hm
            rw [rd] at this
            exact this
          · rw [upd_ne q]
            exact F1.keep b o (by simp [q, e]) hm) (fun b q => by simp [q])
        refine ⟨ha, u3, ⟨fun b o e q => ?_, fun b o e q y => ?_⟩, F4, z'⟩
        · by_cases c : b = a
          · subst c
            rw [rd] at e
            cases e
            exact upd_same
          · rw [upd_ne c]
            refine ad.1 b o (by rw [upd_ne c]; exact e) ?_
            rcases q with q | q
            · exact .inl fun y => q (ow _ _ y)
            · exact .inr q
        · have y' := owv _ _ _ y
          by_cases c : b = a
          · subst c
            exact na3 y'
          · exact ad.2 b o (by rw [upd_ne c]; exact e) (fun y => q (ow _ _ y)) y'
      refine ⟨fun ρ' σ' H' e ad R' => ?_, fun d ρ' σ' w H' e ad R' iw => ?_, fun ρ' σ' H' e ad R' => ?_, fun ρ' σ' H' e ad R' => ?_⟩
      · obtain ⟨b1, b2, b3, b4, b5⟩ := back e ad R'
        exact ⟨b1, k.nx _ _ _ b2 b3 b4⟩
      · obtain ⟨b1, b2, b3, b4, b5⟩ := back e ad R'
        exact ⟨b1, k.rt _ _ _ _ _ b2 b3 b4 ((iw.relock b5).mono (Adv.sub (owv _ _)))⟩
      · obtain ⟨b1, b2, b3, b4, b5⟩ := back e ad R'
        exact ⟨b1, k.bk _ _ _ b2 b3 b4⟩
      · obtain ⟨b1, b2, b3, b4, b5⟩ := back e ad R'
        exact ⟨b1, k.ct _ _ _ b2 b3 b4⟩
    · -- it is locked already
      refine .inr ?_
      have m1 : Adv (OW B ρ) (OW B (ρ.set i (some (.lck a (.dict es))))) H H := Adv.sub (ow _)
      have R2 := R.setCell (i := i) (v := .ref a) (c := .lck a (.dict es)) m1 ⟨rfl, mk _ _ (fun y => na (ow _ _ y)) ⟨f, rd⟩ (.inr rfl) (ow _)⟩ (fun _ _ _ e => e) (fun _ _ _ _ e => e) (fun _ y => y.elim) (fun _ _ _ _ _ _ y => y) (fun _ _ e _ => e) (fun _ _ _ _ _ _ _ e => e)
      rw [set_same hv] at R2
      refine ⟨B, _, _, R2, t0 a, ?_⟩
      have back : ∀ {ρ' : DEnv} {σ' : L2.St} {H' : Hp} {kk : DEnv → Prop}, unl ρ a (.dict es) i ρ' kk → Adv (OW B (ρ.set i (some (.lck a (.dict es))))) (OW B ρ') H H' → Rep B ρ' σ' H' →
          kk (ρ'.set i (some (.val (.dict es)))) ∧ Adv (OW B ρ) (OW B (ρ'.set i (some (.val (.dict es))))) H H' ∧ Rep B (ρ'.set i (some (.val (.dict es)))) σ' H' ∧ Adv (OW B ρ') (OW B (ρ'.set i (some (.val (.dict es))))) H' H' := by
        intro ρ' σ' H' kk ⟨u1, u2, u3⟩ ad R'
        obtain ⟨w, e1, e2, lk⟩ := R'.cel i _ u1
        have ws : σ'[i]? = some (some (.ref a)) := by rw [e1, e2]
        obtain ⟨F1, F2, F3⟩ := R'.freeze u1 ws ((lk.is).mono (Adv.sub fun b y => y.1))
        exact ⟨u3, (m1.trans ad).trans F3, F1, F3⟩
      refine ⟨fun ρ' σ' H' e ad R' => ?_, fun d ρ' σ' w H' e ad R' iw => ?_, fun ρ' σ' H' e ad R' => ?_, fun ρ' σ' H' e ad R' => ?_⟩
      · obtain ⟨b2, b3, b4, b5⟩ := back e ad R'
        exact k.nx _ _ _ b2 b3 b4
      · obtain ⟨b2, b3, b4, b5⟩ := back e ad R'
        exact k.rt _ _ _ _ _ b2 b3 b4 (iw.mono b5)
      · obtain ⟨b2, b3, b4, b5⟩ := back e ad R'
        exact k.bk _ _ _ b2 b3 b4
      · obtain ⟨b2, b3, b4, b5⟩ := back e ad R'
        exact k.ct _ _ _ b2 b3 b4
  cases is with
  | @dK a kvs es' n r all =>
    refine go a (.dK kvs) rfl (.inl ⟨kvs, rfl⟩) n r fun O H2 no ⟨f, hf⟩ zz sub => ⟨no, .inl ⟨f, kvs, es, rfl, hf, ?_⟩⟩
    have all' : IsK (OW B ρ) H2 kvs es := by
      rcases zz with zz | rfl
      · exact all.relock zz
      · exact all
    exact all'.mono (Adv.sub sub)
  | @dT a kvs es' n r all =>
    refine go a (.dT kvs) rfl (.inr ⟨kvs, rfl⟩) n r fun O H2 no ⟨f, hf⟩ zz sub => ⟨no, .inr ⟨f, kvs, es', rfl, hf, ?_⟩⟩
    have all' : IsT (OW B ρ) H2 kvs es' := by
      rcases zz with zz | rfl
      · exact all.relock zz
      · exact all
    exact all'.mono (Adv.sub sub)
theorem ds_lock {X : Cx} {st : Stmt} {t : DTS} {i : Nat} (h : DS X st t) : DS X st (sLock i t) := ⟨fun pins s σ H D I hq => by
  obtain ⟨B, ρ, E, R, t0, k⟩ := hq
  have two : ((∃ a u, H a = some u ∧ tLock (upS t) D σ H) ∨ upS t D σ H) := by
    unfold sLock at t0
    split at t0
    · rename_i es h0
      exact lock_val (pins := pins) (s := s) h R h0 t0 k
    · rename_i a es h0
      obtain ⟨e1, _, e3, _⟩ := R.own i a _ h0
      have m : Adv (OW B ρ) (fun b => OW B ρ b ∧ ¬ cellA (.own a (.dict es)) b) H H := Adv.sub fun _ z => z.1
      obtain ⟨f1, f2, f3⟩ := R.freeze h0 e1 ((e3.mono m rfl).is fun z => z.2 rfl)
      refine lock_val (pins := pins) (s := s) h f1 (by rw [List.getElem?_set_self (List.getElem?_eq_some_iff.mp h0).1]) (fun a' => ?_) (k.adv f3)
      rw [List.set_set]
      exact t0 a'
    · exact .inr ⟨B, ρ, E, R, t0, k⟩
    · exact t0.elim
  rcases two with ⟨_, _, _, q⟩ | q
  · exact (ps_lock h).run pins s σ H D I q
  · exact h.run pins s σ H D I q⟩
/-! ### what is walked: the keys and the items of a locked dict -/
def keysOf : PyData → List PyData
  | .dict ((.none, .none) :: es) => es.map (·.1)
  | .dict es => es.map (·.1)
  | _ => []
def itemsOf : PyData → List PyData
  | .dict es => es.map fun e => .tuple [e.1, e.2]
  | _ => []
def iKeysD (i : Nat) : DTI := fun ρ q => match ρ[i]? with
  | some (some (.lck _ (.dict es))) => q (keysOf (.dict es)) ρ
  | _ => False
def iItemsD (i : Nat) : DTI := fun ρ q => match ρ[i]? with
  | some (some (.lck _ (.dict es))) => kDict es = true ∧ q (itemsOf (.dict es)) ρ
  | _ => False
theorem IsK.at {O : Addr → Prop} {H : Hp} : ∀ {kvs : List (Key × V)} {es : List (PyData × PyData)} {i : Nat} {e : PyData × PyData}, IsK O H kvs es → es[i]? = some e → ∃ k v, kvs[i]? = some (k, v) ∧ e.1 = kD k ∧ Is O H v e.2
  | _, _, i, e, .nilK, h => by simp at h
  | _, _, 0, e, .consK (k := k) (v := v) r _, h => by
    simp at h
    subst h
    exact ⟨k, v, rfl, rfl, r⟩
  | _, _, i + 1, e, .consK _ t, h => by
    obtain ⟨k, v, a, b⟩ := IsK.at (i := i) t (by simpa using h)
    exact ⟨k, v, by simpa using a, b⟩
theorem IsT.at {O : Addr → Prop} {H : Hp} : ∀ {kvs : List (List Key × V)} {es : List (PyData × PyData)} {i : Nat} {e : PyData × PyData}, IsT O H kvs es → es[i]? = some e → ∃ k v, kvs[i]? = some (k, v) ∧ e.1 = kTD k ∧ Is O H v e.2
  | _, _, i, e, .nilT, h => by simp at h
  | _, _, 0, e, .consT (k := k) (v := v) r _, h => by
    simp at h
    subst h
    exact ⟨k, v, rfl, rfl, r⟩
  | _, _, i + 1, e, .consT _ t, h => by
    obtain ⟨k, v, a, b⟩ := IsT.at (i := i) t (by simpa using h)
    exact ⟨k, v, by simpa using a, b⟩
theorem is_kD {O : Addr → Prop} {H : Hp} (k : Key) : Is O H (kV k) (kD k) := by
  cases k with
  | inl i => exact .int i
  | inr x => exact .str x
theorem isAll_kD {O : Addr → Prop} {H : Hp} : ∀ ks : List Key, IsAll O H (ks.map kV) (ks.map kD)
  | [] => .nil
  | k :: ks => .cons (is_kD k) (isAll_kD ks)
theorem keysOf_K {es : List (PyData × PyData)} (h : kDict es = true) : keysOf (.dict es) = es.map (·.1) := by
  match es, h with
  | [], _ => rfl
  | (.none, _) :: _, h => cases h
  | (.bool _, _) :: _, _ => rfl
  | (.int _, _) :: _, _ => rfl
  | (.str _, _) :: _, _ => rfl
  | (.list _, _) :: _, _ => rfl
  | (.tuple _, _) :: _, _ => rfl
  | (.dict _, _) :: _, _ => rfl
section
variable {X : Cx} {x : Str} {i : Nat} {p apos cpos : Pos}
theorem di_keysL {tg : Expr} (hx : PE X (.Name x p) (tVar i)) : DI X tg (.Name x p) (iKeysD i) := PI.imp (pi_keys hx) fun σ H R' ⟨B, ρ, q, R, t, k⟩ => by
  unfold iKeysD at t
  split at t
  · rename_i a es h0
    obtain ⟨v, e1, e2, n, e3⟩ := R.cel i _ h0
    subst e2
    refine ⟨_, e1, a, ?_⟩
    rcases e3 with ⟨o, kvs, es', ed, e4, e5⟩ | ⟨o, kvs, es', ed, e4, e5⟩
    · refine ⟨o, rfl, .inl ⟨kvs, e4, k _ _ _ _ t .refl R fun j O' H2 m => ?_⟩⟩
      have h2 := m.1 _ _ e4 (.inl n)
      injection ed with ed
      subst ed
      rw [keysOf_K e5.kd]
      refine ⟨fun d hd => ?_, fun hl => ⟨h2, by rw [List.length_map] at hl; rw [e5.length]; omega⟩⟩
      rw [List.getElem?_map] at hd
      cases q1 : es[j]? with
      | none => rw [q1] at hd; cases hd
      | some e =>
        rw [q1] at hd
        cases hd
        obtain ⟨kk, vv, f1, f2, f3⟩ := e5.at q1
        refine ⟨⟨h2, (List.getElem?_eq_some_iff.mp f1).1⟩, fun y H3 ⟨g1, k3, v3, g2, g3⟩ => ?_⟩
        subst g1 g3
        rw [f1] at g2
        cases g2
        refine ⟨Same.refl _, ?_⟩
        show Is O' _ _ e.1
        rw [f2]
        exact is_kD _
    · refine ⟨o, rfl, .inr ⟨kvs, e4, k _ _ _ _ t .refl R fun j O' H2 m => ?_⟩⟩
      have h2 := m.1 _ _ e4 (.inl n)
      injection ed with ed
      subst ed
      refine ⟨fun d hd => ?_, fun hl => ⟨h2, by rw [keysOf, List.length_map] at hl; rw [e5.length]; omega⟩⟩
      rw [keysOf, List.getElem?_map] at hd
      cases q1 : es'[j]? with
      | none => rw [q1] at hd; cases hd
      | some e =>
        rw [q1] at hd
        cases hd
        obtain ⟨kk, vv, f1, f2, f3⟩ := e5.at q1
        refine ⟨⟨h2, (List.getElem?_eq_some_iff.mp f1).1⟩, fun y H3 ⟨g1, k3, v3, qq, g2, g3, g4⟩ => ?_⟩
        subst g1 g3
        rw [f1] at g2
        cases g2
        refine ⟨Same.refl _, ?_⟩
        show Is O' _ _ e.1
        rw [f2]
        exact .tup g4 (isAll_kD _)
  · exact t.elim
theorem di_itemsL {elts : List Expr} {kk : Nat} {tpos : Pos} (hx : PE X (.Name x p) (tVar i)) (hbase : attributeBase (.Name x p) "items" X.env (eval (.Name x p) X.env) = eval (.Name x p) X.env := by rfl) (hline : (apos.endLine == cpos.line) = true := by rfl) :
    DI X (.Tuple elts kk tpos) (.Call (.Attribute (.Name x p) "items" apos) [] [] cpos) (iItemsD i) := PI.imp (pi_items hx hbase hline) fun σ H R' ⟨B, ρ, q, R, t, k⟩ => by
  unfold iItemsD at t
  split at t
  · rename_i a es h0
    obtain ⟨kd, t⟩ := t
    obtain ⟨v, e1, e2, n, e3⟩ := R.cel i _ h0
    subst e2
    refine ⟨_, e1, ?_⟩
    rcases e3 with ⟨o, kvs, es', ed, e4, e5⟩ | ⟨o, kvs, es', ed, e4, e5⟩
    · refine ⟨a, o, kvs, rfl, e4, k _ _ _ _ t .refl R fun j O' H2 m => ?_⟩
      have h2 := m.1 _ _ e4 (.inl n)
      injection ed with ed
      subst ed
      refine ⟨fun d hd => ?_, fun hl => ⟨h2, by rw [itemsOf, List.length_map] at hl; rw [e5.length]; omega⟩⟩
      rw [itemsOf, List.getElem?_map] at hd
      cases q1 : es[j]? with
      | none => rw [q1] at hd; cases hd
      | some e =>
        rw [q1] at hd
        cases hd
        obtain ⟨kk, vv, f1, f2, f3⟩ := (e5.mono m).at q1
        refine ⟨⟨h2, (List.getElem?_eq_some_iff.mp f1).1⟩, fun y H3 ⟨T, k3, v3, g2, g3, g4, g5⟩ => ?_⟩
        subst g3 g5
        rw [f1] at g2
        cases g2
        refine ⟨same_new g4, .tup upd_same (.cons ?_ (.cons (f3.mono (.new g4)) .nil))⟩
        rw [f2]
        exact is_kD _
    · injection ed with ed
      subst ed
      cases kd
  · exact t.elim
end
end DL
namespace DL
open PySem PySem.Spec PyProof.Rows L2
/-! ### d.setdefault(k, v), tuples as keys -/
def tDSetdT (td ty tx : TE) : TE := fun σ H Q => td σ H fun x H1 => ∃ a, x = .ref a ∧ IsD H1 a ∧ ty σ H1 fun y H2 => tx σ H2 fun z H3 => ∃ (kvs : List (List Key × V)) (k : List Key) (b : Addr), H3 a = some (.dT kvs) ∧ y = .ref b ∧ H3 b = some (.tup (k.map kV)) ∧ kvs.length < sizeLine ∧
  (∀ v, valV kvs k = some v → Q v H3) ∧ (valV kvs k = none → Q z (upd H3 a (.dT (putK kvs k z))))
section
variable {X : Cx} {o e f : Expr} {td ty tx : TE} {apos cpos : Pos}
theorem pe_dsetdT (hu : X.A.units + 1 < cLine) (ho : PE X o td) (he : PE X e ty) (hf : PE X f tx) (m : M2 X o "setdefault" apos e f cpos) : PE X (.Call (.Attribute o "setdefault" apos) [e, f] [] cpos) (tDSetdT td ty tx) := by
  refine ⟨fun pins s σ H Q I h => ?_⟩
  refine wpAny_Call_method m.base m.few m.line PySem.F.plainAttrs_dict PySem.F.slot_dict_setdefault PySem.F.type_dict_setdefault (thn (ho.run pins s σ H _ I h) fun u s1 ⟨x, H1, I1, rx, a, ex, d, q1⟩ => ?_)
  subst ex
  obtain rfl : u = Value.ref a := rx
  obtain ⟨t1, t2, _⟩ := isD_at I1 d
  refine ⟨t1, t2, ?_⟩
  rw [m.trees]
  refine Calls.callWith_builtin rfl (Calls.evalArgs_plain (Calls.spliced_cons (thn (he.run pins s1 σ H1 _ I1 q1) fun iv s2 ⟨y, H2, I2, ry, q2⟩ =>
    Calls.spliced_cons (thn (hf.run pins s2 σ H2 _ I2 q2) fun fv s3 ⟨z, H3, I3, rz, kvs, k, b, ea, ey, eb, hl, q3, q4⟩ => Calls.spliced_nil ?_))))
  subst ey
  obtain rfl : iv = Value.ref b := ry
  obtain ⟨zz, hd, xs, rel, dd⟩ := dt_of I3.hok ea
  have hz : xs.length ≤ sizeLine := by
    rw [← rel.length]
    exact zz
  have key := key_of I3.hok eb
  refine call_setdefault_heap (hsz := hz) (knd := tupleKind (mixKind X.prog X.w)) (show X.A.in1.units < cLine from hu) key hd dd (fun p hp => ?_) fun hn h' dd' hs => ?_
  · have q := rel.val k
    rw [hp] at q
    cases q0 : valV kvs k with
    | none => rw [q0] at q; exact (show False from q).elim
    | some v0 =>
      rw [q0] at q
      exact ⟨v0, _, I3.tok _, q, q3 v0 q0⟩
  · have q := rel.val k
    rw [hn] at q
    cases q0 : valV kvs k with
    | some v0 => rw [q0] at q; exact (show False from q).elim
    | none =>
      have hl2 : (putK kvs k z).length ≤ sizeLine := by
        have := length_putK kvs k z
        omega
      obtain ⟨qq, es, ep, hq, h2, h3, h4, h45, h5⟩ := dd'
      have r1 : KT H3 (putK kvs k z) (storedH xs k b fv) := rel.put k eb rz
      have J3 : Inv X pins σ (upd H3 a (.dT (putK kvs k z))) { s3 with heap := h' } := d_write I3 (by rw [ea]; exact True.intro) hs ⟨qq, hq⟩ ⟨hl2, hd, _, KT.keeps r1 fun c ys ec => ?_, qq, es, ep, hq, h2, h3, h4, h5⟩
      · exact ⟨z, _, J3.tok _, rz, q4 q0⟩
      · have ne : c ≠ a := fun w => by rw [w, ea] at ec; cases ec
        rw [upd_ne ne]
        exact ec
end
/-- x.setdefault(k, v) as a statement -/
def sTSetd (i : Nat) (tk tv : DT) : DTS := fun E ρ => match ρ[i]? with
  | some (some (.own _ (.dict ((.none, .none) :: _)))) => tk ρ fun ok ρ1 => tv ρ1 fun ov ρ2 => ok.rd ρ2 fun e => ov.tk ρ2 fun d ρ3 => match ρ3[i]? with
    | some (some (.own a (.dict ((.none, .none) :: es)))) => isKeyT e = true ∧ es.length < 16777216 ∧ E.nx (ρ3.set i (some (.own a (.dict ((.none, .none) :: if (dGetT es e).isSome = true then es else dPutT es e d)))))
    | _ => False
  | _ => False
section
variable {X : Cx} {x : Str} {ke ve : Expr} {tk tv : DT}
theorem ds_tsetd {i : Nat} {p apos cpos pos : Pos} (hu : X.A.units + 1 < cLine) (hx : PE X (.Name x p) (tVar i)) (hk : DO X ke tk) (hv : DO X ve tv)
    (hbase : attributeBase (.Name x p) "setdefault" X.env (eval (.Name x p) X.env) = eval (.Name x p) X.env := by rfl)
    (hfew : ((backTo cpos (starEach [ke, ve] X.env)).all (fun x => !x.1) && (backToKw cpos (keywordEach [] X.env)).all (fun x => x.1.isSome) && decide (([ke, ve] : List Expr).length + ([] : List Keyword).length + (if ([] : List Keyword).isEmpty then 0 else 1) < 30)) = true := by rfl)
    (hline : (apos.endLine == cpos.line) = true := by rfl) (htr : backTo cpos (starEach [ke, ve] X.env) = [(false, eval ke X.env), (false, eval ve X.env)] := by rfl)
    (hsw : swapsWith (.Call (.Attribute (.Name x p) "setdefault" apos) [ke, ve] [] cpos) none pos.line X.env = pure false := by rfl) :
    DS X (.Expr (.Call (.Attribute (.Name x p) "setdefault" apos) [ke, ve] [] cpos) pos) (sTSetd i tk tv) := PS.imp (ps_expr (pe_dsetdT hu hx hk hv ⟨hbase, hfew, hline, htr⟩) hsw) fun D σ H ⟨B, ρ, E, R, t, k⟩ => by
  unfold sTSetd at t
  split at t
  · rename_i a0 es0 h0
    obtain ⟨g1, g2, g3, g4⟩ := R.own i a0 _ h0
    obtain ⟨kvs0, hk0, _⟩ := g3.dicT
    refine ⟨_, g1, a0, rfl, .inr ⟨kvs0, .inl hk0⟩, B, ρ, _, R, t, fun ok ρ1 v1 H1 t1 m1 R1 i1 => ⟨B, ρ1, _, R1, t1, fun ov ρ2 v2 H2 t2 m2 R2 i2 => ?_⟩⟩
    obtain ⟨ek, t3, r3⟩ := (i1.adv m2).rd R2 t2
    obtain ⟨d, ρ3, t4, is, R4, m4⟩ := i2.tk R2 t3
    split at t4
    · rename_i a1 es hc
      obtain ⟨ke', hl, nx⟩ := t4
      obtain ⟨f1, f2, f3, f4⟩ := R4.own i a1 _ hc
      rw [g1] at f1
      cases f1
      obtain ⟨kvs, hk1, all⟩ := f3.dicT
      obtain ⟨b, q, rfl, eb, rfl⟩ := keyT_of r3 ke'
      refine ⟨kvs, q, b, hk1, rfl, eb, by rw [all.length, sizeLine_eq]; exact hl, fun v hv => ?_, fun hn => ?_⟩
      · rcases all.look q with ⟨v', d', g5, g6, g7⟩ | ⟨g5, g6⟩
        · rw [g6, Option.isSome_some, if_pos rfl] at nx
          have e : ρ3.set i (some (.own a0 (.dict ((.none, .none) :: es)))) = ρ3 := set_same hc
          rw [e] at nx
          exact k.nx _ _ _ nx ((m1.trans m2).trans m4) R4
        · rw [hv] at g5; cases g5
      · rcases all.look q with ⟨v', d', g5, g6, g7⟩ | ⟨g5, g6⟩
        · rw [hn] at g5; cases g5
        · rw [g6, if_neg (by simp)] at nx
          obtain ⟨R5, m5⟩ := R4.write (u := .dT (putK kvs q v2)) hc (.dT (all.put q is))
          exact k.nx _ _ _ nx (((m1.trans m2).trans m4).trans m5) R5
    · exact t4.elim
  · exact t.elim
end
/-! ### f(*x) -/
def dCallS (n : Nat) (F : DF) (ta : DT) : DT := fun ρ q => ta ρ fun o ρ1 => o.tk ρ1 fun d ρ2 => ∃ ds, seq2D d = some ds ∧ ds.length = n ∧ F ds fun r _ => q (.vl r) ρ2
section
variable {X : Cx} {e : Expr} {ta : DT} {pos p sp_ : Pos} {x : Str} {k n : Nat} {f : Addr} {fd : FuncData} {ps : List Str} {F : DF}
theorem do_callS (G : FnOk X.prog X.w X.K X.mg X.base CX0 k f fd ps (spD false n F)) (hr : Room k X.A) (hg : Gl X x) (hm : X.mg x = some (.ref f)) (hk : PySem.W.keepIn X.K (.ref f) = true) (hb : Binds X.K fd ps [])
    (ha : DO X e ta) (hdb : (x == ("__debug__" : Str)) = false := by decide) (hst : starEach [.Starred e sp_] X.env = [(true, eval e X.env)] := by rfl) :
    DO X (.Call (.Name x p) [.Starred e sp_] [] pos) (dCallS n F ta) := PE.imp (StX.pe_callS1 (G.raw hb .nil) hr hk hg hm pass0 ha hdb hst) fun σ H Q ⟨B, ρ, q, R, t, kk⟩ => by
  refine ⟨B, ρ, _, R, t, fun o ρ1 v H1 t1 m1 R1 i1 => ?_⟩
  obtain ⟨d, ρ2, ⟨ds, h1, h2, h3⟩, is, R2, m2⟩ := i1.tk R1 t1
  have fin : ∀ {xs : List V}, IsAll (OW B ρ2) H1 xs ds → spD false n F (xs ++ []) H1 Q E0 := fun {xs} all => by
    rw [List.append_nil]
    refine ⟨by rw [all.length, h2], OW B ρ2, ds, _, fun a z => R2.ow z, h3, ?_⟩
    rw [if_neg Bool.false_ne_true]
    exact ⟨all, fun d' e' v' H' hq hs hv => kk _ _ _ _ hq ((m1.trans m2).trans (.same hs)) (R2.same hs) hv⟩
  cases d with
  | list l =>
    cases h1
    obtain ⟨a, ys, rfl, e2, e3⟩ := is.lst'
    exact ⟨a, ys, rfl, .inr (SqL.of e2), fin e3⟩
  | tuple l =>
    cases h1
    obtain ⟨a, ys, rfl, e2, e3⟩ := is.tup'
    exact ⟨a, ys, rfl, .inl (SqT.of e2), fin e3⟩
  | _ => cases h1
end
/-! ### bits -/
section
variable {X : Cx} {a b : Expr} {ta tb : DT} {pos : Pos}
theorem do_band (ha : DO X a ta) (hb : DO X b tb) : DO X (.BinOp a .BitAnd b pos) (d2 (gII (fun _ _ => True) fun i j => .int (Builtin.bitAnd i j)) ta tb) := do_op op_and fit_rI0 ha hb
theorem do_shr (ha : DO X a ta) (hb : DO X b tb) : DO X (.BinOp a .RShift b pos) (d2 (gII (fun _ j => 0 ≤ j) fun i j => .int (i / 2 ^ j.toNat)) ta tb) := do_op op_shr fit_rI ha hb
end
/-! ### {k: v for ..}, ints and texts as keys -/
def dcGo (g : DTG) (tt : DTT) (tk tv : DT) (vs : List Nat) : List PyData → List (PyData × PyData) → DEnv → (PyData → DEnv → Prop) → Prop
  | [], acc, ρ, q => q (.dict acc) ρ
  | d :: ds, acc, ρ, q => g d (wipeD ρ vs) fun ρ1 => tt ρ1 fun b ρ2 =>
    if b = true then tk ρ2 fun ok ρ3 => tv ρ3 fun ov ρ4 => ok.rd ρ4 fun ek => ov.tk ρ4 fun ed ρ5 => isKey ek = true ∧ acc.length < 16777216 ∧ plainC (backD ρ ρ5 vs) vs = true ∧ dcGo g tt tk tv vs ds (dPutD acc ek ed) (backD ρ ρ5 vs) q
    else plainC (backD ρ ρ2 vs) vs = true ∧ dcGo g tt tk tv vs ds acc (backD ρ ρ2 vs) q
def fDc (ti : DTI) (g : DTG) (tt : DTT) (tk tv : DT) (vs : List Nat) : DTF := fun ρ q => ti ρ fun ds ρ1 => plainC ρ1 vs = true ∧ dcGo g tt tk tv vs ds [] ρ1 q
section
variable {X : Cx} {kx vx tg iter : Expr} {ifs : List Expr} {scope : Scope} {own : List (Str × Nat)} {pos : Pos} {ti : DTI} {g : DTG} {tt : DTT} {tk tv : DT} {ws vs : List Nat}
theorem upDc {σ : L2.St} {H : Hp} {Q : VK} (hws : ∀ i ∈ ws, i ∈ vs) (h : upF (fDc ti g tt tk tv vs) σ H Q) : tDc (upI ti) (upTg ws g) (upT tt) (upO tk) (upO tv) vs σ H Q := by
  obtain ⟨B, ρ, q, R, t, k⟩ := h
  refine ⟨B, ρ, _, R, t, fun ds ρ1 J H1 t1 m1 R1 src D hD => ?_⟩
  obtain ⟨hp1, t1⟩ := t1
  obtain ⟨e1, e2⟩ := R1.entry hD
  obtain ⟨R1', tp1, m1'⟩ := R1.fresh (p := D) (u := .dK []) (d := .dict []) hD (.dK .nilK)
  refine ⟨fun i m H' => ∃ ρ' acc xs, Rep (B.plus D) ρ' σ H' ∧ Adv (OW B ρ1) (OW (B.plus D) ρ') H1 H' ∧ H' D = some (.dK xs) ∧ IsK (OW (B.plus D) ρ') H' xs acc ∧ plainC ρ' vs = true ∧ dcGo g tt tk tv vs (ds.drop i) acc ρ' q ∧ i ≤ ds.length ∧ m = ds.length - i,
    ⟨ds.length, ρ1, [], [], R1', m1', upd_same, .nilK, hp1, t1, Nat.zero_le _, rfl⟩, ?_⟩
  rintro i m H2 ⟨ρ2, acc, xs, R2, m2, hD2, all, hp2, f2, hi, rfl⟩
  obtain ⟨s1, s2⟩ := src i _ _ m2
  by_cases hlt : i < ds.length
  · obtain ⟨go, yl⟩ := s1 ds[i] (List.getElem?_eq_getElem hlt)
    refine .inr ⟨go, fun H' => ∃ ρ' acc xs, Rep (B.plus D) ρ' σ H' ∧ Adv (OW B ρ1) (OW (B.plus D) ρ') H1 H' ∧ H' D = some (.dK xs) ∧ IsK (OW (B.plus D) ρ') H' xs acc ∧ plainC ρ' vs = true ∧ dcGo g tt tk tv vs (ds.drop (i + 1)) acc ρ' q,
      fun H' ⟨ρ', acc', xs', a1, a2, a3, a4, a5, a6⟩ => ⟨ds.length - (i + 1), by omega, ρ', acc', xs', a1, a2, a3, a4, a5, a6, hlt, rfl⟩, fun x H3 hy => ?_⟩
    obtain ⟨hs, is⟩ := yl x H3 hy
    have R3 := R2.same hs
    have ms : Adv (OW (B.plus D) ρ2) (OW (B.plus D) ρ2) H2 H3 := .same hs
    have hD3 : H3 D = some (.dK xs) := hs _ _ hD2
    obtain ⟨Rw, mw⟩ := Rep.wipes vs ρ2 σ R3
    have Rr := Rw.re
    rw [List.drop_eq_getElem_cons hlt] at f2
    refine ⟨_, wipeD ρ2 vs, ds[i], _, Rr, is.mono mw, f2, fun ρ3 σ3 t3 y3 m3 R3' => ⟨wipe_only (fun j hj => y3.2 j fun z => hj (hws j z)) y3.1, _, ρ3, _, R3', t3, fun b ρ4 H4 t4 m4 R4 => ?_⟩⟩
    have nD : ¬ owns (wipeD ρ2 vs) D := fun ⟨j, c, e, z⟩ => (Rw.adr j c D e z).2.1 (.inr rfl)
    have agree : ∀ j, j ∉ vs → σ3[j]? = σ[j]? := fun j hj => (y3.2 j fun z => hj (hws j z)).trans (wipe_out hj)
    have slen : σ3.length = σ.length := y3.1.trans (wipe_length _ _)
    have fin : ∀ {ρ5 : DEnv} {H5 : Hp}, Rep ((B.plus D).re (wipeD ρ2 vs) H3) ρ5 σ3 H5 → Adv (OW ((B.plus D).re (wipeD ρ2 vs) H3) (wipeD ρ2 vs)) (OW ((B.plus D).re (wipeD ρ2 vs) H3) ρ5) H3 H5 →
        Rep (B.plus D) (backD ρ2 ρ5 vs) σ H5 ∧ Adv (OW (B.plus D) ρ2) (OW (B.plus D) (backD ρ2 ρ5 vs)) H2 H5 ∧ H5 D = some (.dK xs) ∧ Adv (OW (B.plus D) ρ5) (OW (B.plus D) (backD ρ2 ρ5 vs)) H5 H5 := by
      intro ρ5 H5 R5 m5
      have R5' : Rep (B.plus D) ρ5 σ3 H5 := Rw.unre R5
      have m35 : Adv (OW (B.plus D) ρ2) (OW (B.plus D) ρ5) H3 H5 := mw.trans m5
      obtain ⟨R6, m6⟩ := R3.back R5' m35 hp2 agree slen
      exact ⟨R6, (ms.trans m35).trans m6, R5.keep D _ hD3 nD, m6⟩
    cases b with
    | true =>
      dsimp only
      rw [if_pos rfl] at t4 ⊢
      refine ⟨_, ρ4, _, R4, t4, fun ok ρ5 y H5 t5 m5 R5 i5 => ⟨_, ρ5, _, R5, t5, fun ov ρ6 z H6 t6 m6 R6 i6 => ?_⟩⟩
      obtain ⟨ek, t7, rk⟩ := (i5.adv m6).rd R6 t6
      obtain ⟨ed, ρ7, ⟨ke, hl, hp7, t8⟩, ie, R7, m7⟩ := i6.tk R6 t7
      obtain ⟨R8, m8, hD8, m78⟩ := fin R7 ((((m3.trans m4).trans m5).trans m6).trans m7)
      obtain ⟨kk, rfl, rfl⟩ := key_of_is rk ke
      obtain ⟨R9, m9⟩ := R8.writeO (p := D) (u := .dK (putK xs kk z)) (.inr rfl) e2 rfl
      have ie' : Is (OW (B.plus D) ρ7) H6 z ed := ie
      refine ⟨xs, kk, rfl, hD8, by rw [all.length, sizeLine_eq]; exact hl, backD ρ2 ρ7 vs, dPutD acc (kD kk) ed, putK xs kk z, R9, (m2.trans m8).trans m9, upd_same, ?_, hp7, t8⟩
      exact ((all.mono m8).mono m9).put kk ((ie'.mono m78).mono m9)
    | false =>
      dsimp only
      rw [if_neg Bool.false_ne_true] at t4 ⊢
      obtain ⟨R7, m7, hD7, m67⟩ := fin R4 (m3.trans m4)
      exact ⟨backD ρ2 ρ4 vs, acc, xs, R7, m2.trans m7, hD7, all.mono m7, t4.1, t4.2⟩
  · have e : ds.drop i = [] := List.drop_eq_nil_of_le (by omega)
    rw [e] at f2
    exact .inl ⟨s2 (by omega), k _ _ _ _ f2 e1 e2 (m1.trans m2) R2 ⟨_, hD2, .dK all⟩⟩
theorem dfr_dc (hws : ∀ i ∈ ws, i ∈ own.map (·.2)) (hc : X.calm = true) (hN : X.N.Nodup) (hi : DI X tg iter ti) (ok : BlkOk X.N X.env.scope scope own)
    (hg : ∀ (s : Shared) (H : Hp) (C : Addr) (cl : List (Str × Addr)) (fp : List Addr), DG1 (X.blk s H scope (compEnvC scope cl C X.env) fp) tg ws g) (ht : ∀ (s : Shared) (H : Hp) (C : Addr) (cl : List (Str × Addr)) (fp : List Addr), PTs (X.blk s H scope (compEnvC scope cl C X.env) fp) ifs (upT tt))
    (hk : ∀ (s : Shared) (H : Hp) (C : Addr) (cl : List (Str × Addr)) (fp : List Addr), DO (X.blk s H scope (compEnvC scope cl C X.env) fp) kx tk)
    (he : ∀ (s : Shared) (H : Hp) (C : Addr) (cl : List (Str × Addr)) (fp : List Addr), DO (X.blk s H scope (compEnvC scope cl C X.env) fp) vx tv) (hs : ∀ x, foldedSetIterable iter X.env x = pure x := by intro _; rfl) :
    DFr X (.DictComp kx vx [⟨tg, iter, ifs, 0⟩] scope pos) (fDc ti g tt tk tv (own.map (·.2))) := PE.imp (pe_dc hc hN hi ok hg ht hk he hs) fun _ _ _ h => upDc hws h
end
end DL
namespace DL
open PySem PySem.Spec PyProof.Rows L2
/-! ### len(d) -/
def rLenDR : List V → Hp → VK → Prop := fun xs H Q => ∃ a, xs = [V.ref a] ∧ ((∃ kvs, Rd H a (.dK kvs) ∧ Q (.int (kvs.length : Nat)) H) ∨ ∃ kvs, Rd H a (.dT kvs) ∧ Q (.int (kvs.length : Nat)) H)
theorem call_lenDR {X : Cx} : CallR X (.builtin "len") rLenDR := by
  intro pins s σ H xs us Q I r h
  obtain ⟨a, rfl, h⟩ := h
  obtain ⟨u, rfl, ru⟩ := vals1 r
  cases ru
  rcases h with ⟨kvs, ha, q⟩ | ⟨kvs, ha, q⟩
  · exact d_len I ha fun t s' I' => ⟨.int kvs.length, H, I', ⟨t, rfl⟩, q⟩
  · obtain ⟨z, hd, ys, rel, dd⟩ := dt_rd I.hok ha
    have hl : kvs.length = ys.length := Paired.length rel
    refine call_len_dictH hd dd (by rw [← hl]; rw [sizeLine_eq] at z; omega) ?_
    rw [← hl]
    exact ⟨.int ((kvs.length : Nat) : Int), H, I.tok _, ⟨_, rfl⟩, q⟩
def dictN : List (PyData × PyData) → Nat
  | (.none, .none) :: es => es.length
  | es => es.length
def gLenD : D1 := fun d q => match d with
  | .dict es => q (.int (dictN es : Nat))
  | _ => False
theorem dictN_K {es : List (PyData × PyData)} (h : kDict es = true) : dictN es = es.length := by
  match es, h with
  | [], _ => rfl
  | (.none, _) :: _, h => cases h
  | (.bool _, _) :: _, _ => rfl
  | (.int _, _) :: _, _ => rfl
  | (.str _, _) :: _, _ => rfl
  | (.list _, _) :: _, _ => rfl
  | (.tuple _, _) :: _, _ => rfl
  | (.dict _, _) :: _, _ => rfl
theorem rdB_dict {O : Addr → Prop} {H : Hp} {v : V} {es : List (PyData × PyData)} (h : RdB O H v (.dict es)) : ∃ a, v = .ref a ∧ ((∃ kvs, Rd H a (.dK kvs) ∧ IsK O H kvs es) ∨ ∃ kvs es', es = (.none, .none) :: es' ∧ Rd H a (.dT kvs) ∧ IsT O H kvs es') := by
  rcases h with h | ⟨a, rfl, u, e, h⟩
  · cases h with
    | dK n r t => exact ⟨_, rfl, .inl ⟨_, r, t⟩⟩
    | dT n r t => exact ⟨_, rfl, .inr ⟨_, _, rfl, r, t⟩⟩
  · cases h with
    | dK t => exact ⟨a, rfl, .inl ⟨_, .inl e, t⟩⟩
    | dT t => exact ⟨a, rfl, .inr ⟨_, _, rfl, .inl e, t⟩⟩
theorem fit_lenD : Fit rLenDR (g1 gLenD) := fun O H xs ds q Q _ rs h k => by
  unfold g1 at h
  split at h
  · rename_i d
    obtain ⟨x, rfl, r⟩ := rdAll1 rs
    unfold gLenD at h
    split at h
    · rename_i es
      obtain ⟨a, ex, r2⟩ := rdB_dict r
      subst ex
      rcases r2 with ⟨kvs, r, t⟩ | ⟨kvs, es', ee, r, t⟩
      · refine ⟨a, rfl, .inl ⟨kvs, r, k _ _ _ h (Same.refl _) ?_⟩⟩
        rw [dictN_K t.kd, ← t.length]
        exact .int _
      · refine ⟨a, rfl, .inr ⟨kvs, r, k _ _ _ h (Same.refl _) ?_⟩⟩
        rw [ee, show dictN ((.none, .none) :: es') = es'.length from rfl, ← t.length]
        exact .int _
    · exact h.elim
  · exact h.elim
section
variable {X : Cx} {e : Expr} {ta : DT} {p pos : Pos}
theorem do_lenD (hg : Gl X "len") (hm : X.mg "len" = none) (ha : DO X e ta) (he : starEach [e] X.env = (false, eval e X.env) :: starEach [] X.env := by rfl) : DO X (.Call (.Name "len" p) [e] [] pos) (dB1 (g1 gLenD) (dCons ta dNil)) :=
  do_callB call_lenDR fit_lenD hg hm boot_len (da_cons ha da_nil he) (by decide) (by decide) he
end
/-! ### {}, tuples as keys -/
def fT0 : DTF := fun ρ q => q (.dict [(.none, .none)]) ρ
theorem dfr_t0 {X : Cx} {pos : Pos} : DFr X (.Dict [] [] pos) fT0 := PE.imp pe_dnewT fun σ H Q ⟨B, ρ, q, R, t, k⟩ => fun p hp => by
  obtain ⟨R3, tp, m3⟩ := R.fresh hp (.dT .nilT)
  obtain ⟨e1, e2⟩ := R.entry hp
  exact k _ _ _ _ t e1 e2 m3 R3 tp
/-! ### a name is given a dict comprehension's dict -/
section
variable {X : Cx} {kx vx tg iter : Expr} {ifs : List Expr} {scope : Scope} {own : List (Str × Nat)} {pos : Pos} {ti : DTI} {g : DTG} {tt : DTT} {tk tv : DT} {ws vs : List Nat}
theorem ps_setDc {i : Nat} {y : Str} {py spos : Pos} {wi : TI} {g : TG} {tt : TT} {tk tv : TE} (hc : X.calm = true) (hN : X.N.Nodup) (hy : X.N[i]? = some y) (hyl : X.env.scope.names.lookup y = some .local)
    (hsw : swapsWith (.DictComp kx vx [⟨tg, iter, ifs, 0⟩] scope pos) (some (.Name y py)) spos.line X.env = pure true) (hi : PI X tg iter wi) (ok : BlkOk X.N X.env.scope scope own)
    (hg : ∀ (s : Shared) (H : Hp) (C : Addr) (cl : List (Str × Addr)) (fp : List Addr), PG (X.blk s H scope (compEnvC scope cl C X.env) fp) tg g) (ht : ∀ (s : Shared) (H : Hp) (C : Addr) (cl : List (Str × Addr)) (fp : List Addr), PTs (X.blk s H scope (compEnvC scope cl C X.env) fp) ifs tt)
    (hk : ∀ (s : Shared) (H : Hp) (C : Addr) (cl : List (Str × Addr)) (fp : List Addr), PE (X.blk s H scope (compEnvC scope cl C X.env) fp) kx tk)
    (he : ∀ (s : Shared) (H : Hp) (C : Addr) (cl : List (Str × Addr)) (fp : List Addr), PE (X.blk s H scope (compEnvC scope cl C X.env) fp) vx tv) (hs : ∀ x, foldedSetIterable iter X.env x = pure x := by intro _; rfl) :
    PS X (.Assign [.Name y py] (.DictComp kx vx [⟨tg, iter, ifs, 0⟩] scope pos) spos) (tAsg (tDc wi g tt tk tv (own.map (·.2))) (gName i)) := by
  refine ⟨fun pins s σ H D I h => ?_⟩
  rw [exec_Assign_Name_used _ _ _ _ hsw]
  refine wpAny_bind (wpAny_standAt (wpAny_bind ?_))
  show wpAny _ X.A (do let _ ← comprehension (.DictComp kx vx [⟨tg, iter, ifs, 0⟩] scope pos) scope X.env (firstIterPos [⟨tg, iter, ifs, 0⟩] pos) newDict false (eval iter X.env) (some (assign (.Name y py) X.env))) _ _ s
  have h : tDc wi g tt tk tv (own.map (·.2)) σ H (fun x H1 => gName i x σ H1 D.nx) := h
  refine wpAny_bind (thn (dc_core (Qf := fun _ s' => SP X pins D .next s') hc hN I hi ok hg ht hk he hs h fun L C s' m H' I' q hn f => ?_) fun _ s' hq => wpAny_pure (wpAny_pure hq))
  show wpAny _ _ (assign (.Name y py) X.env (.ref L)) _ _ _
  refine wpAny_assign_Name (store_ok2 (v := V.ref L) I' hN hy (.inl hyl) rfl (fun s2 I2 ⟨a, sb, ha⟩ => ?_) (.inr hyl))
  obtain ⟨f0, f1, f2, f3, f4, f5⟩ := f
  have haC : C ≠ a := by
    rcases ha with z | z
    · rw [z]; exact f1
    · exact fun e => f4 y a z e.symm
  refine ⟨m, hn.sameBut sb haC, fun h3 sb3 => ?_⟩
  exact ⟨_, H', I2.turned (t' := s2.toks) (fun b o hb e => (sb3.2 b hb).trans e) f0 f1 f3 f4 f5, q⟩
theorem ds_setDc {i : Nat} {y : Str} {py spos : Pos} (hws : ∀ i ∈ ws, i ∈ own.map (·.2)) (hc : X.calm = true) (hN : X.N.Nodup) (hy : X.N[i]? = some y) (hyl : X.env.scope.names.lookup y = some .local)
    (hsw : swapsWith (.DictComp kx vx [⟨tg, iter, ifs, 0⟩] scope pos) (some (.Name y py)) spos.line X.env = pure true) (hi : DI X tg iter ti) (ok : BlkOk X.N X.env.scope scope own)
    (hg : ∀ (s : Shared) (H : Hp) (C : Addr) (cl : List (Str × Addr)) (fp : List Addr), DG1 (X.blk s H scope (compEnvC scope cl C X.env) fp) tg ws g) (ht : ∀ (s : Shared) (H : Hp) (C : Addr) (cl : List (Str × Addr)) (fp : List Addr), PTs (X.blk s H scope (compEnvC scope cl C X.env) fp) ifs (upT tt))
    (hk : ∀ (s : Shared) (H : Hp) (C : Addr) (cl : List (Str × Addr)) (fp : List Addr), DO (X.blk s H scope (compEnvC scope cl C X.env) fp) kx tk)
    (he : ∀ (s : Shared) (H : Hp) (C : Addr) (cl : List (Str × Addr)) (fp : List Addr), DO (X.blk s H scope (compEnvC scope cl C X.env) fp) vx tv) (hs : ∀ x, foldedSetIterable iter X.env x = pure x := by intro _; rfl) :
    DS X (.Assign [.Name y py] (.DictComp kx vx [⟨tg, iter, ifs, 0⟩] scope pos) spos) (sSetF i (fDc ti g tt tk tv (own.map (·.2)))) := PS.imp (ps_setDc hc hN hy hyl hsw hi ok hg ht hk he hs) fun D σ H ⟨B, ρ, E, R, t, k⟩ => by
  refine upDc (Q := fun x H1 => gName i x σ H1 D.nx) hws ⟨B, ρ, _, R, t, fun p d ρ1 H1 t1 n1 n2 m1 R1 tp => ?_⟩
  obtain ⟨R2, m2⟩ := R1.adopt (i := i) tp n1 n2
  exact k.nx _ _ _ (t1 p) (m1.trans m2) R2
theorem ds_setDcV {i : Nat} {y : Str} {py spos : Pos} (hws : ∀ i ∈ ws, i ∈ own.map (·.2)) (hc : X.calm = true) (hN : X.N.Nodup) (hy : X.N[i]? = some y) (hyl : X.env.scope.names.lookup y = some .local)
    (hsw : swapsWith (.DictComp kx vx [⟨tg, iter, ifs, 0⟩] scope pos) (some (.Name y py)) spos.line X.env = pure true) (hi : DI X tg iter ti) (ok : BlkOk X.N X.env.scope scope own)
    (hg : ∀ (s : Shared) (H : Hp) (C : Addr) (cl : List (Str × Addr)) (fp : List Addr), DG1 (X.blk s H scope (compEnvC scope cl C X.env) fp) tg ws g) (ht : ∀ (s : Shared) (H : Hp) (C : Addr) (cl : List (Str × Addr)) (fp : List Addr), PTs (X.blk s H scope (compEnvC scope cl C X.env) fp) ifs (upT tt))
    (hk : ∀ (s : Shared) (H : Hp) (C : Addr) (cl : List (Str × Addr)) (fp : List Addr), DO (X.blk s H scope (compEnvC scope cl C X.env) fp) kx tk)
    (he : ∀ (s : Shared) (H : Hp) (C : Addr) (cl : List (Str × Addr)) (fp : List Addr), DO (X.blk s H scope (compEnvC scope cl C X.env) fp) vx tv) (hs : ∀ x, foldedSetIterable iter X.env x = pure x := by intro _; rfl) :
    DS X (.Assign [.Name y py] (.DictComp kx vx [⟨tg, iter, ifs, 0⟩] scope pos) spos) (sSetV i (fDc ti g tt tk tv (own.map (·.2)))) := PS.imp (ps_setDc hc hN hy hyl hsw hi ok hg ht hk he hs) fun D σ H ⟨B, ρ, E, R, t, k⟩ => by
  refine upDc (Q := fun x H1 => gName i x σ H1 D.nx) hws ⟨B, ρ, _, R, t, fun p d ρ1 H1 t1 n1 n2 m1 R1 tp => ?_⟩
  have np : ¬ OW B ρ1 p := fun z => z.elim n1 fun ⟨i, c, h, z⟩ => (R1.adr i c p h z).2.1 (.inr rfl)
  obtain ⟨R2, m2⟩ := R1.drop
  obtain ⟨R3, m3⟩ := R2.setVal (i := i) ((tp.mono m2 rfl).is np)
  exact k.nx _ _ _ t1 ((m1.trans m2).trans m3) R3
end
end DL
namespace DL
open PySem PySem.Spec PyProof.Rows L2
/-! ### x in list, of data -/
def rLInD (K : PySem.W.Frag) (f : Bool → Bool) : R2 := fun x y H Q => ∃ d xs, Dp K H x d ∧ Dp K H y (.list xs) ∧ d.canLay0 = true ∧ PyData.canLayAll0 xs = true ∧ d.depth ≤ 60 ∧ Q (.bl (f (xs.any fun y => PyData.eqv y d))) H
section
variable {X : Cx}
theorem op_linD (hu : X.A.units + 64 < cLine) : OpR X (compareOp .In) (rLInD X.K id) := by
  intro pins s σ H x y v u Q I rx ry h
  obtain ⟨d, xs, hd, he, sd, se, dd, q⟩ := h
  obtain ⟨as, r1⟩ := Dp.reads I d x v hd rx
  obtain ⟨bs, r2⟩ := Dp.reads I (.list xs) y u he ry
  refine SeqAt.in_list_data r2 r1 (PyData.plainAll_of_canLay0 _ se) (PyData.plain_of_canLay0 _ sd) ?_ ⟨.bl _, H, I, rfl, q⟩
  have := Nat.min_le_right (PyData.depthAll xs) d.depth
  omega
theorem op_lnotinD (hu : X.A.units + 64 < cLine) : OpR X (compareOp .NotIn) (rLInD X.K (!·)) := by
  intro pins s σ H x y v u Q I rx ry h
  obtain ⟨d, xs, hd, he, sd, se, dd, q⟩ := h
  obtain ⟨as, r1⟩ := Dp.reads I d x v hd rx
  obtain ⟨bs, r2⟩ := Dp.reads I (.list xs) y u he ry
  refine SeqAt.notIn_list_data r2 r1 (PyData.plainAll_of_canLay0 _ se) (PyData.plain_of_canLay0 _ sd) ?_ ⟨.bl _, H, I, rfl, q⟩
  have := Nat.min_le_right (PyData.depthAll xs) d.depth
  omega
end
def gLIn (f : Bool → Bool) : D2 := fun d e q => match e with
  | .list xs => d.canLay0 = true ∧ PyData.canLayAll0 xs = true ∧ d.depth ≤ 60 ∧ q (.bool (f (xs.any fun y => PyData.eqv y d)))
  | _ => False
theorem fit_lin {K : PySem.W.Frag} {f : Bool → Bool} : Fit2X (rLInD K f) (gLIn f) := fun H x y d e q Q hx hy h k => by
  unfold gLIn at h
  split at h
  · rename_i xs
    obtain ⟨h1, h2, h3, h4⟩ := h
    exact ⟨d, xs, hx.dp h1, hy.dp (by simpa [PyData.canLay0] using h2), h1, h2, h3, k _ _ h4 (Sc.bl _)⟩
  · exact h.elim
section
variable {X : Cx} {a b : Expr} {ta tb : DT} {pos : Pos}
theorem do_lin (hu : X.A.units + 64 < cLine) (ha : DO X a ta) (hb : DO X b tb) (hm : behindInMarks .In b = false := by rfl) : DO X (.Compare a [.In] [b] pos) (d2x (gLIn id) ta tb) := do_cmpx (op_linD hu) fit_lin ha hb hm
theorem do_lnotin (hu : X.A.units + 64 < cLine) (ha : DO X a ta) (hb : DO X b tb) (hm : behindInMarks .NotIn b = false := by rfl) : DO X (.Compare a [.NotIn] [b] pos) (d2x (gLIn (!·)) ta tb) := do_cmpx (op_lnotinD hu) fit_lin ha hb hm
theorem dp_lin (hu : X.A.units + 64 < cLine) (ha : DO X a ta) (hb : DO X b tb) (hm : behindInMarks .In b = false := by rfl) : DP X (.Compare a [.In] [b] pos) (dB (d2x (gLIn id) ta tb)) := dp_cmpx (op_linD hu) fit_lin ha hb hm
theorem dp_lnotin (hu : X.A.units + 64 < cLine) (ha : DO X a ta) (hb : DO X b tb) (hm : behindInMarks .NotIn b = false := by rfl) : DP X (.Compare a [.NotIn] [b] pos) (dB (d2x (gLIn (!·)) ta tb)) := dp_cmpx (op_lnotinD hu) fit_lin ha hb hm
end
end DL
namespace DL
open PySem PySem.Spec PyProof.Rows L2
/-! ### xs.index(x), of data, where it is there -/
theorem reads_at {h : Heap} : ∀ {vs : List Value} {xs : List PyData} {as : List Addr}, ReadsAll h vs xs as → ∀ (j : Nat) (h1 : j < vs.length), ∃ d bs, xs[j]? = some d ∧ Reads h vs[j] d bs
  | _, _, _, .nil, j, h1 => absurd h1 (Nat.not_lt_zero _)
  | _, _, _, .cons r rs, 0, _ => ⟨_, _, rfl, r⟩
  | _, _, _, .cons r rs, j + 1, h1 => by
    obtain ⟨d, bs, a, b⟩ := reads_at rs j (Nat.lt_of_succ_lt_succ h1)
    exact ⟨d, bs, by simpa using a, b⟩
theorem reads_len {h : Heap} : ∀ {vs : List Value} {xs : List PyData} {as : List Addr}, ReadsAll h vs xs as → vs.length = xs.length
  | _, _, _, .nil => rfl
  | _, _, _, .cons _ rs => congrArg Nat.succ (reads_len rs)
theorem canlay_at : ∀ {xs : List PyData} {j : Nat} {d : PyData}, PyData.canLayAll0 xs = true → xs[j]? = some d → d.canLay0 = true
  | x :: xs, 0, d, h, e => by
    cases e
    simp only [PyData.canLayAll0, Bool.and_eq_true] at h
    exact h.1
  | x :: xs, j + 1, d, h, e => by
    simp only [PyData.canLayAll0, Bool.and_eq_true] at h
    exact canlay_at h.2 (by simpa using e)
/-- where the first thing like d stands -/
def FirstAt (xs : List PyData) (d : PyData) (j : Nat) : Prop := (∃ x, xs[j]? = some x ∧ PyData.eqv x d = true) ∧ ∀ m y, m < j → xs[m]? = some y → PyData.eqv y d = false
def tLIdx (K : PySem.W.Frag) (to te : TE) : TE := fun σ H Q => to σ H fun x H1 => tyV K "list" x H1 ∧ te σ H1 fun y H2 => ∃ (d : PyData) (xs : List PyData) (j : Nat), Dp K H2 x (.list xs) ∧ Dp K H2 y d ∧ d.canLay0 = true ∧ PyData.canLayAll0 xs = true ∧ d.depth ≤ 60 ∧ xs.length ≤ 16777216 ∧ FirstAt xs d j ∧ Q (.int (j : Nat)) H2
section
variable {X : Cx} {o e : Expr} {to te : TE} {apos cpos : Pos}
theorem pe_lidx (hu : X.A.units + 64 < cLine) (ho : PE X o to) (he : PE X e te) (m : M1 X o "index" apos e cpos) : PE X (.Call (.Attribute o "index" apos) [e] [] cpos) (tLIdx X.K to te) := by
  refine ⟨fun pins s σ H Q I h => ?_⟩
  refine wpAny_Call_method_late m.base m.few m.line rfl (thn (ho.run pins s σ H _ I h) fun v s1 ⟨x, H1, I1, r1, ty, q1⟩ => ?_)
  obtain ⟨h1, h2⟩ := tyV_is I1 r1 ty
  refine ⟨"list", _, PySem.F.plainAttrs_list, PySem.F.slot_list_index, PySem.F.type_list_index, h1, h2, ?_⟩
  rw [m.trees]
  refine Calls.callWith_builtin rfl (Calls.evalArgs_plain (Calls.spliced_cons (thn (he.run pins s1 σ H1 _ I1 q1) fun u s2 ⟨y, H2, I2, ry, q2⟩ => Calls.spliced_nil ?_)))
  obtain ⟨d, xs, j, hx, hd, sd, sx, dd, lx, ⟨⟨z, hz, ez⟩, hno⟩, q⟩ := q2
  obtain ⟨as, rc⟩ := Dp.reads I2 (.list xs) x v hx r1
  obtain ⟨bs, rd⟩ := Dp.reads I2 d y u hd ry
  cases rc with
  | @list l o vs n _ _ k1 k2 k3 k4 =>
    obtain ⟨cls, dic, dat, sl⟩ := o
    simp only at k2 k3
    subst k2 k3
    have vl : vs.size = xs.length := by
      have := reads_len k4
      simpa using this
    have hj : j < xs.length := (List.getElem?_eq_some_iff.mp hz).1
    have ee : ∀ i (x : PyData), xs[i]? = some x → xs.getD i .none = x := fun i x h => by rw [List.getD_eq_getElem?_getD, h]; rfl
    refine call_meets PySem.F.slot_list_index ⟨_, k1, rfl⟩ PySem.F.entry_list_index (PySem.F.args_list_index_2 _ _)
      (SeqAt.list_index2_found l vs n dic sl u (fun i => PyData.eqv (xs.getD i .none) d) j (by omega) (Nat.zero_le _) (by omega) ?hit ?hno) ⟨k1, fun i hi => ?_, ⟨.int (j : Nat), H2, I2.tok _, ⟨_, rfl⟩, q⟩⟩
    case hit =>
      show PyData.eqv (xs.getD j .none) d = true
      rw [ee j z hz, ez]
    case hno =>
      intro i hi _ hlt
      have hx := List.getElem?_eq_getElem (show i < xs.length by omega)
      show PyData.eqv (xs.getD i .none) d = false
      rw [ee i _ hx]
      exact hno i _ hlt hx
    · obtain ⟨di, ds, a1, a2⟩ := reads_at k4 i (by simpa using hi)
      have e := SeqAt.eqAt_plain di d X.A.in1 s2 vs[i] u ds bs (by simpa using a2) rd (PyData.plain_of_canLay0 _ (canlay_at sx a1)) (PyData.plain_of_canLay0 _ sd) (by
        have := Nat.min_le_right di.depth d.depth
        show X.A.units + 1 + _ < _
        omega)
      rw [ee i di a1]
      exact e
end
end DL
namespace DL
open PySem PySem.Spec PyProof.Rows L2
def isLst : PyData → Bool
  | .list _ => true
  | _ => false
def gLIndex : D2 := fun d e q => match d with
  | .list xs => e.canLay0 = true ∧ PyData.canLayAll0 xs = true ∧ e.depth ≤ 60 ∧ xs.length ≤ 16777216 ∧ ∃ j, FirstAt xs e j ∧ q (.int (j : Nat))
  | _ => False
def dLIx (ta tb : DT) : DT := fun ρ q => ta ρ fun oa ρ1 => oa.rdx ρ1 fun d0 => isLst d0 = true ∧ tb ρ1 fun ob ρ2 => oa.rdx ρ2 fun d => ob.rdx ρ2 fun e => gLIndex d e fun r => q (.vl r) ρ2
section
variable {X : Cx} {a b : Expr} {ta tb : DT} {apos cpos : Pos}
theorem lst_ty {K : PySem.W.Frag} {H : Hp} {v : V} {d : PyData} (h : RdX H v d) (l : isLst d = true) : tyV K "list" v H := by
  obtain ⟨O, h⟩ := h
  cases h with
  | lst n r _ => exact .inl ⟨rfl, _, .inl (.inl r)⟩
  | _ => cases l
theorem do_lindex (hu : X.A.units + 64 < cLine) (ha : DO X a ta) (hb : DO X b tb) (hbase : attributeBase a "index" X.env (eval a X.env) = eval a X.env := by rfl)
    (hfew : ((backTo cpos (starEach [b] X.env)).all (fun x => !x.1) && (backToKw cpos (keywordEach [] X.env)).all (fun x => x.1.isSome) && decide (([b] : List Expr).length + ([] : List Keyword).length + (if ([] : List Keyword).isEmpty then 0 else 1) < 30)) = true := by rfl)
    (hline : (apos.endLine == cpos.line) = true := by rfl) (htr : backTo cpos (starEach [b] X.env) = [(false, eval b X.env)] := by rfl) :
    DO X (.Call (.Attribute a "index" apos) [b] [] cpos) (dLIx ta tb) := PE.imp (pe_lidx hu ha hb ⟨hbase, hfew, hline, htr⟩) fun σ H Q ⟨B, ρ, q, R, t, k⟩ => by
  refine ⟨B, ρ, _, R, t, fun oa ρ1 v1 H1 t1 m1 R1 i1 => ?_⟩
  obtain ⟨d0, ⟨l0, t2⟩, r0⟩ := i1.rdx R1 t1
  refine ⟨lst_ty r0 l0, B, ρ1, _, R1, t2, fun ob ρ2 v2 H2 t3 m2 R2 i2 => ?_⟩
  obtain ⟨d, t4, r3⟩ := (i1.adv m2).rdx R2 t3
  obtain ⟨e, t5, r4⟩ := i2.rdx R2 t4
  unfold gLIndex at t5
  split at t5
  · rename_i xs
    obtain ⟨h1, h2, h3, h4, j, h5, h6⟩ := t5
    exact ⟨e, xs, j, r3.dp (by simpa [PyData.canLay0] using h2), r4.dp h1, h1, h2, h3, h4, h5, k _ _ _ _ h6 (m1.trans m2) R2 (.int _)⟩
  · exact t5.elim
end
end DL
namespace DL
open PySem PySem.Spec PyProof.Rows L2
/-! ### a comprehension whose things are new lists: a grid -/
abbrev DTGr := DEnv → (List (List PyData) → DEnv → Prop) → Prop
def upGr (t : DTGr) : TE := fun σ H Q => ∃ B ρ q, Rep B ρ σ H ∧ t ρ q ∧ ∀ a as dss ρ' H', q dss ρ' → (∀ p ∈ a :: as, ¬ B.O p ∧ (B.mu p ∨ B.H0 p = none)) → Adv (OW B ρ) (OW (B.these (a :: as)) ρ') H H' → Rep (B.these (a :: as)) ρ' σ H' → Grid H' a as dss → Q (.ref a) H'
abbrev DGr (X : Cx) (e : Expr) (t : DTGr) : Prop := PE X e (upGr t)
def gridGo (g : DTG) (te : DTF) (vs : List Nat) : List PyData → List (List PyData) → DEnv → (List (List PyData) → DEnv → Prop) → Prop
  | [], acc, ρ, q => q acc ρ
  | d :: ds, acc, ρ, q => g d (wipeD ρ vs) fun ρ1 => te ρ1 fun e ρ4 => ∃ l, e = .list l ∧ flats l = true ∧ acc.length < 16777216 ∧ plainC (backD ρ ρ4 vs) vs = true ∧ gridGo g te vs ds (acc ++ [l]) (backD ρ ρ4 vs) q
def fGr (ti : DTI) (g : DTG) (te : DTF) (vs : List Nat) : DTGr := fun ρ q => ti ρ fun ds ρ1 => plainC ρ1 vs = true ∧ gridGo g te vs ds [] ρ1 q
theorem Bs.plus_these (B : Bs) (p : Addr) : B.plus p = B.these [p] := by rw [← B.these_cons, Bs.these_nil]
theorem Bs.these_snoc (B : Bs) (D : Addr) (as : List Addr) (p : Addr) : (B.these (D :: as)).plus p = B.these (D :: (as ++ [p])) := by
  rw [Bs.plus_these, Bs.these_app]
  rfl
section
variable {X : Cx} {elt tg iter : Expr} {scope : Scope} {own : List (Str × Nat)} {pos : Pos} {ti : DTI} {g : DTG} {te : DTF} {ws vs : List Nat}
theorem upGr_lc {σ : L2.St} {H : Hp} {Q : VK} (hws : ∀ i ∈ ws, i ∈ vs) (h : upGr (fGr ti g te vs) σ H Q) : tLc (upI ti) (upTg ws g) (upT dYes) (upF te) vs σ H Q := by
  obtain ⟨B, ρ, q, R, t, k⟩ := h
  refine ⟨B, ρ, _, R, t, fun ds ρ1 J H1 t1 m1 R1 src D hD => ?_⟩
  obtain ⟨hp1, t1⟩ := t1
  obtain ⟨e1, e2⟩ := R1.entry hD
  obtain ⟨R1', tp1, m1'⟩ := R1.fresh (p := D) (u := .lst []) (d := .list []) hD (.lst .nil)
  rw [B.plus_these] at R1' m1'
  refine ⟨fun i m H' => ∃ ρ' as acc, Rep (B.these (D :: as)) ρ' σ H' ∧ Adv (OW B ρ1) (OW (B.these (D :: as)) ρ') H1 H' ∧ Grid H' D as acc ∧ (∀ p ∈ D :: as, ¬ B.O p ∧ (B.mu p ∨ B.H0 p = none)) ∧ plainC ρ' vs = true ∧ gridGo g te vs (ds.drop i) acc ρ' q ∧ i ≤ ds.length ∧ m = ds.length - i,
    ⟨ds.length, ρ1, [], [], R1', m1', ⟨upd_same, by simp, rfl, fun i p d e => by simp at e⟩, fun p hp => by simp at hp; subst hp; exact ⟨e1, e2⟩, hp1, t1, Nat.zero_le _, rfl⟩, ?_⟩
  rintro i m H2 ⟨ρ2, as, acc, R2, m2, G2, ent, hp2, f2, hi, rfl⟩
  obtain ⟨s1, s2⟩ := src i _ _ m2
  by_cases hlt : i < ds.length
  · obtain ⟨go, yl⟩ := s1 ds[i] (List.getElem?_eq_getElem hlt)
    refine .inr ⟨go, fun H' => ∃ ρ' as acc, Rep (B.these (D :: as)) ρ' σ H' ∧ Adv (OW B ρ1) (OW (B.these (D :: as)) ρ') H1 H' ∧ Grid H' D as acc ∧ (∀ p ∈ D :: as, ¬ B.O p ∧ (B.mu p ∨ B.H0 p = none)) ∧ plainC ρ' vs = true ∧ gridGo g te vs (ds.drop (i + 1)) acc ρ' q,
      fun H' ⟨ρ', as', acc', a1, a2, a3, a4, a5, a6⟩ => ⟨ds.length - (i + 1), by omega, ρ', as', acc', a1, a2, a3, a4, a5, a6, hlt, rfl⟩, fun x H3 hy => ?_⟩
    obtain ⟨hs, is⟩ := yl x H3 hy
    have R3 := R2.same hs
    have ms : Adv (OW (B.these (D :: as)) ρ2) (OW (B.these (D :: as)) ρ2) H2 H3 := .same hs
    obtain ⟨Rw, mw⟩ := Rep.wipes vs ρ2 σ R3
    have Rr := Rw.re
    rw [List.drop_eq_getElem_cons hlt] at f2
    refine ⟨_, wipeD ρ2 vs, ds[i], _, Rr, is.mono mw, f2, fun ρ3 σ3 t3 y3 m3 R3' => ⟨wipe_only (fun j hj => y3.2 j fun z => hj (hws j z)) y3.1, _, ρ3, fun b ρ' => b = true ∧ ρ' = ρ3, R3', ⟨rfl, rfl⟩, fun b ρ4 H4 t4 m4 R4 => ?_⟩⟩
    obtain ⟨rfl, rfl⟩ := t4
    rw [if_pos rfl]
    have agree : ∀ j, j ∉ vs → σ3[j]? = σ[j]? := fun j hj => (y3.2 j fun z => hj (hws j z)).trans (wipe_out hj)
    have slen : σ3.length = σ.length := y3.1.trans (wipe_length _ _)
    refine ⟨_, ρ4, _, R4, t3, fun p d ρ5 H5 t5 n1 n2 m5 R5 tp => ?_⟩
    obtain ⟨l, rfl, fl, hl, hp5, t5⟩ := t5
    have R5' : Rep ((B.these (D :: as)).plus p) ρ5 σ3 H5 := Rw.unre R5
    have m35 : Adv (OW (B.these (D :: as)) ρ2) (OW ((B.these (D :: as)).plus p) ρ5) H3 H5 := mw.trans ((m3.trans m4).trans m5)
    obtain ⟨R6, m6⟩ := R3.back R5' m35 hp2 agree slen
    have np : p ∉ D :: as := fun z => n1 (.inr z)
    have nop : ¬ B.O p ∧ (B.mu p ∨ B.H0 p = none) := ⟨fun z => n1 (.inl z), Rw.unre_mu n2⟩
    have kept : ∀ b o, b = D ∨ b ∈ as → H2 b = some o → H5 b = some o := fun b o hb e => R5.keep b o (hs b o e) fun ⟨j, c, e', z⟩ => (Rw.adr j c b e' z).2.1 (.inr (List.mem_cons.mpr hb))
    have tups : ∀ b o, H2 b = some o → isTup o = true → H5 b = some o := fun b o e tt => m35.1 b o (hs b o e) (.inr tt)
    have G5 : Grid H5 D as acc := G2.mono kept tups
    have R6' := R6
    obtain ⟨R7, m7⟩ := R6.writeO (p := D) (u := .lst ((as.map V.ref) ++ [.ref p])) (.inl (.inr (List.mem_cons_self ..))) (ent D (List.mem_cons_self ..)).2 rfl
    refine ⟨as.map V.ref, G5.top, by rw [List.length_map, G5.len, sizeLine_eq]; exact hl, backD ρ2 ρ5 vs, as ++ [p], acc ++ [l], ?_, ?_, ?_, ?_, hp5, t5⟩
    · rw [← B.these_snoc]
      exact R7
    · rw [← B.these_snoc]
      exact (((m2.trans ms).trans m35).trans m6).trans m7
    · have nd := G5.nod
      have Dn : ∀ b, b ∈ as ++ [p] → b ≠ D := fun b hb z => by
        subst z
        rcases List.mem_append.mp hb with hb | hb
        · exact (List.nodup_cons.mp nd).1 hb
        · rw [List.mem_singleton.mp hb] at np
          exact np (List.mem_cons_self ..)
      have up : ∀ b o, H5 b = some o → isTup o = true → upd H5 D (.lst ((as.map V.ref) ++ [.ref p])) b = some o := fun b o e tt => by
        have ne : b ≠ D := fun z => by
          subst z
          rw [G5.top] at e
          cases e
          cases tt
        rw [upd_ne ne]
        exact e
      refine ⟨by rw [upd_same, List.map_append]; rfl, ?_, by rw [List.length_append, List.length_append, G5.len]; rfl, fun j b dd hb hd => ?_⟩
      · refine List.nodup_cons.mpr ⟨fun z => Dn D z rfl, List.nodup_append.mpr ⟨(List.nodup_cons.mp nd).2, by simp, fun x hx y hy => ?_⟩⟩
        rw [List.mem_singleton.mp hy]
        exact fun z => np (z ▸ List.mem_cons_of_mem _ hx)
      · have bD : b ≠ D := Dn b (List.mem_of_getElem? hb)
        by_cases c : j < as.length
        · rw [List.getElem?_append_left c] at hb
          rw [List.getElem?_append_left (by rw [← G5.len]; exact c)] at hd
          exact (G5.row j b dd hb hd).mono (upd_ne bD) up
        · have jl : j = as.length := by
            have := (List.getElem?_eq_some_iff.mp hb).1
            rw [List.length_append, List.length_singleton] at this
            omega
          subst jl
          rw [List.getElem?_append_right (Nat.le_refl _), Nat.sub_self] at hb
          rw [G5.len, List.getElem?_append_right (Nat.le_refl _), Nat.sub_self] at hd
          cases hb
          cases hd
          obtain ⟨u, hu, hh⟩ := tp
          cases hh with
          | lst r => exact GridAt.mono ⟨_, hu, r.flat_any fl, fl⟩ (upd_ne bD) up
    · intro b hb
      rcases List.mem_cons.mp hb with rfl | hb
      · exact ent b (List.mem_cons_self ..)
      · rcases List.mem_append.mp hb with hb | hb
        · exact ent b (List.mem_cons_of_mem _ hb)
        · rw [List.mem_singleton.mp hb]
          exact nop
  · have e : ds.drop i = [] := List.drop_eq_nil_of_le (by omega)
    rw [e] at f2
    exact .inl ⟨s2 (by omega), k _ _ _ _ _ f2 ent (m1.trans m2) R2 G2⟩
theorem dgr_lc (hws : ∀ i ∈ ws, i ∈ own.map (·.2)) (hc : X.calm = true) (hN : X.N.Nodup) (hi : DI X tg iter ti) (ok : BlkOk X.N X.env.scope scope own)
    (hg : ∀ (s : Shared) (H : Hp) (C : Addr) (cl : List (Str × Addr)) (fp : List Addr), DG1 (X.blk s H scope (compEnvC scope cl C X.env) fp) tg ws g)
    (he : ∀ (s : Shared) (H : Hp) (C : Addr) (cl : List (Str × Addr)) (fp : List Addr), DFr (X.blk s H scope (compEnvC scope cl C X.env) fp) elt te) (hs : ∀ x, foldedSetIterable iter X.env x = pure x := by intro _; rfl) :
    DGr X (.ListComp elt [⟨tg, iter, [], 0⟩] scope pos) (fGr ti g te (own.map (·.2))) := PE.imp (pe_lc hc hN hi ok hg (fun _ _ _ _ _ => dts_nil) he hs) fun _ _ _ h => upGr_lc hws h
end
section
variable {X : Cx} {a b c e : Expr} {es : List Expr} {ta tb tc : DT} {t : DTAF} {tg : DTGr} {pos : Pos} {x y z : Str}
def afG (tg : DTGr) (tr : DTAF) : DTAF := fun ρ q => tg ρ fun dss ρ1 => tr ρ1 fun fs ρ2 => q (.gd dss :: fs) ρ2
theorem daf_g (ha : DGr X e tg) (hr : DAF X es t) (hs : starEach (e :: es) X.env = (false, eval e X.env) :: starEach es X.env := by rfl) : DAF X (e :: es) (afG tg t) := PA.imp (pa_cons ha hr hs) fun σ H Q ⟨B, ρ, q, R, t, k⟩ => by
  refine ⟨B, ρ, _, R, t, fun a as dss ρ1 H1 t1 ent m1 R1 G => ?_⟩
  refine ⟨(B.these (a :: as)).re ρ1 H1, ρ1, _, R1.re, t1, fun fs ρ2 vs ps H2 t2 nd hp m2 R2 all => ?_⟩
  have np : ∀ b ∈ a :: as, ¬ owns ρ1 b := fun b hb ⟨i, c, h, z⟩ => (R1.adr i c b h z).2.1 (.inr hb)
  have R2' : Rep (B.these ((a :: as) ++ ps)) ρ2 σ H2 := by
    rw [← B.these_app]
    exact R1.unre R2
  have m2' : Adv (OW (B.these (a :: as)) ρ1) (OW (B.these ((a :: as) ++ ps)) ρ2) H1 H2 := by
    rw [← B.these_app]
    exact m2
  have all' : FAll (OW (B.these ((a :: as) ++ ps)) ρ2) H2 ps vs fs := by
    rw [← B.these_app]
    exact all
  have G2 : Grid H2 a as dss := G.mono (fun b o hb e => R2.keep b o e (np b (List.mem_cons.mpr hb))) fun b o e tt => m2'.1 b o e (.inr tt)
  refine k _ _ _ _ _ t2 (List.nodup_append.mpr ⟨G.nod, nd, fun x hx y hy z => (hp y hy).1 (.inr (z ▸ hx))⟩) (fun q hq => ?_) (m1.trans m2') R2' (.gd G2 all')
  rcases List.mem_append.mp hq with z | z
  · exact ent q z
  · obtain ⟨h1, h2⟩ := hp q z
    exact ⟨fun y => h1 (.inl y), R1.unre_mu h2⟩
def sSetGr (i : Nat) (tg : DTGr) : DTS := fun E ρ => tg ρ fun dss ρ1 => ∀ a as, E.nx (ρ1.set i (some (.grid a as dss)))
theorem ds_setGr {i : Nat} {pos' : Pos} (hN : X.N.Nodup) (hi : X.N[i]? = some x) (hx : Loc X.env.scope x) (ha : DGr X e tg) (hs : swapsWith e (some (.Name x pos')) pos.line X.env = pure false := by rfl) (hf : X.fn x = true ∨ X.env.scope.names.lookup x = some .local := by first | exact .inl rfl | exact .inr rfl | assumption) :
    DS X (.Assign [.Name x pos'] e pos) (sSetGr i tg) := PS.imp (ps_set hN hi hx ha hs hf) fun D σ H ⟨B, ρ, E, R, t, k⟩ => by
  refine ⟨B, ρ, _, R, t, fun a as dss ρ1 H1 t1 ent m1 R1 G => ?_⟩
  obtain ⟨R2, m2⟩ := Rep.adoptC (P := (· ∈ a :: as)) R1 (i := i) (v := .ref a) (c := .grid a as dss) (fun b z => List.mem_cons.mpr z) ⟨rfl, G⟩ fun b z => ent b (List.mem_cons.mpr z)
  exact k.nx _ _ _ (t1 a as) (m1.trans m2) R2
/-! ### x[i][j] of a grid -/
def dIxG (i : Nat) (ta tb : DT) : DT := fun ρ q => match ρ[i]? with
  | some (some (.grid a as dss)) => ta ρ fun oa ρ1 => oa.rd ρ1 fun da => (match da with
    | .int n => ρ1[i]? = some (some (.grid a as dss)) ∧ ∃ l, atI dss n = some l ∧ tb ρ1 fun ob ρ2 => ob.rd ρ2 fun db => (match db with
      | .int m => ρ2[i]? = some (some (.grid a as dss)) ∧ ∃ r, atI l m = some r ∧ q (.vl r) ρ2
      | _ => False)
    | _ => False)
  | _ => False
theorem atI_map {α β : Type} {f : α → β} {l : List α} {n : Int} {r : α} (h : atI l n = some r) : atI (l.map f) n = some (f r) := by
  unfold atI at h ⊢
  rw [List.length_map]
  cases q : ixN l.length n with
  | none => rw [q] at h; cases h
  | some j =>
    rw [q] at h
    show (l.map f)[j]? = _
    rw [List.getElem?_map, show l[j]? = some r from h]
    rfl
theorem atI_at {α : Type} {l : List α} {n : Int} {r : α} (h : atI l n = some r) : ∃ j, ixN l.length n = some j ∧ l[j]? = some r := by
  unfold atI at h
  cases q : ixN l.length n with
  | none => rw [q] at h; cases h
  | some j =>
    rw [q] at h
    exact ⟨j, rfl, h⟩
theorem Grid.at {H : Hp} {a : Addr} {as : List Addr} {dss : List (List PyData)} (G : Grid H a as dss) {n : Int} {j : Nat} {l : List PyData} (hj : ixN dss.length n = some j) (hl : dss[j]? = some l) : ∃ p xs, as[j]? = some p ∧ atI (as.map V.ref) n = some (.ref p) ∧ H p = some (.lst xs) ∧ IsAll (fun _ => True) H xs l ∧ flats l = true := by
  have lj := (List.getElem?_eq_some_iff.mp hl).1
  rw [← G.len] at lj
  obtain ⟨xs, q1, q2, q3⟩ := G.row j _ l (List.getElem?_eq_getElem lj) hl
  refine ⟨as[j], xs, List.getElem?_eq_getElem lj, ?_, q1, q2, q3⟩
  have : atI as n = some as[j] := by
    unfold atI
    rw [G.len, hj]
    exact List.getElem?_eq_getElem lj
  exact atI_map this
theorem flats_at {l : List PyData} {j : Nat} {r : PyData} : flats l = true → l[j]? = some r → flat r = true := by
  induction l generalizing j with
  | nil => intro _ h; simp at h
  | cons d l ih =>
    intro f h
    simp only [flats, Bool.and_eq_true] at f
    cases j with
    | zero => simp at h; subst h; exact f.1
    | succ j => exact ih f.2 (by simpa using h)
theorem flats_set {l : List PyData} {j : Nat} {r : PyData} : flats l = true → flat r = true → flats (l.set j r) = true := by
  induction l generalizing j with
  | nil => intro f _; exact f
  | cons d l ih =>
    intro f h
    simp only [flats, Bool.and_eq_true] at f
    cases j with
    | zero => simp only [List.set_cons_zero, flats, Bool.and_eq_true]; exact ⟨h, f.2⟩
    | succ j => simp only [List.set_cons_succ, flats, Bool.and_eq_true]; exact ⟨f.1, ih f.2 h⟩
theorem Rep.grid {B : Bs} {ρ : DEnv} {σ : L2.St} {H : Hp} (R : Rep B ρ σ H) {i : Nat} {a : Addr} {as : List Addr} {dss : List (List PyData)} (e : ρ[i]? = some (some (.grid a as dss))) : σ[i]? = some (some (.ref a)) ∧ Grid H a as dss := by
  obtain ⟨v, h1, h2, h3⟩ := R.cel i _ e
  subst h2
  exact ⟨h1, h3⟩
theorem do_ixG {i : Nat} {p p1 : Pos} (hx : PE X (.Name x p) (tVar i)) (ha : DO X a ta) (hb : DO X b tb) (hsa : PlainIx a) (hsb : PlainIx b) : DO X (.Subscript (.Subscript (.Name x p) a p1) b pos) (dIxG i ta tb) :=
  PE.imp (pe_ix ix_seq (pe_ix ix_seq hx ha hsa) hb hsb) fun σ H Q ⟨B, ρ, q, R, t, k⟩ => by
  unfold dIxG at t
  split at t
  · rename_i a0 as dss h0
    refine ⟨_, (R.grid h0).1, B, ρ, _, R, t, fun oa ρ1 v1 H1 t1 m1 R1 i1 => ?_⟩
    obtain ⟨da, t1, ra⟩ := i1.rd R1 t1
    split at t1
    · rename_i n
      obtain ⟨e1, l, hl, t1⟩ := t1
      obtain ⟨j, hj, hl⟩ := atI_at hl
      have G1 := (R1.grid e1).2
      obtain ⟨p, xs, q1, q2, q3, q4, q5⟩ := G1.at hj hl
      refine .inl ⟨a0, _, n, .ref p, rfl, ra.int, SqL.of G1.top, q2, B, ρ1, _, R1, t1, fun ob ρ2 v2 H2 t2 m2 R2 i2 => ?_⟩
      obtain ⟨db, t2, rb⟩ := i2.rd R2 t2
      split at t2
      · rename_i m
        obtain ⟨e2, r, hr, t2⟩ := t2
        have G2 := (R2.grid e2).2
        obtain ⟨p', xs', q1', q2', q3', q4', q5'⟩ := G2.at hj hl
        rw [q1] at q1'
        cases q1'
        obtain ⟨v, f1, f2⟩ := atI_all q4' hr
        obtain ⟨jj, _, hjj⟩ := atI_at hr
        exact .inl ⟨p, xs', m, v, rfl, rb.int, SqL.of q3', f1, k _ _ _ _ t2 (m1.trans m2) R2 (f2.flat_any (flats_at q5' hjj))⟩
      · exact t2.elim
    · exact t1.elim
  · exact t.elim
theorem Rep.writeGrid {B : Bs} {ρ : DEnv} {σ : L2.St} {H : Hp} (R : Rep B ρ σ H) {i : Nat} {a : Addr} {as : List Addr} {dss : List (List PyData)} (e : ρ[i]? = some (some (.grid a as dss))) {j : Nat} {p : Addr} {l : List PyData} {xs : List V} (hp : as[j]? = some p) (hl : dss[j]? = some l)
    (hx : H p = some (.lst xs)) (all : IsAll (fun _ => True) H xs l) (fl : flats l = true) {k : Nat} {v : V} {d : PyData} (is : Is (OW B ρ) H v d) (fd : flat d = true) :
    Rep B (ρ.set i (some (.grid a as (dss.set j (l.set k d))))) σ (upd H p (.lst (xs.set k v))) ∧ Adv (OW B ρ) (OW B (ρ.set i (some (.grid a as (dss.set j (l.set k d)))))) H (upd H p (.lst (xs.set k v))) := by
  obtain ⟨h1, G⟩ := R.grid e
  have pm : p ∈ as := List.mem_of_getElem? hp
  have pa : a ≠ p := fun z => (List.nodup_cons.mp G.nod).1 (z ▸ pm)
  have op : OW B ρ p := .inr ⟨i, _, e, .inr pm⟩
  have nt : ∀ b o, H b = some o → isTup o = true → b ≠ p := fun b o e' kk z => by
    subst z; rw [hx] at e'; cases e'; cases kk
  have tups : ∀ b o, H b = some o → isTup o = true → upd H p (.lst (xs.set k v)) b = some o := fun b o e' kk => by
    rw [upd_ne (nt b o e' kk)]; exact e'
  have ow : ∀ b, OW B (ρ.set i (some (.grid a as (dss.set j (l.set k d))))) b → OW B ρ b := fun b z => z.elim .inl fun z => (owns_set z).elim (fun ⟨_, e', z⟩ => by cases e'; exact .inr ⟨i, _, e, z⟩) .inr
  have m : Adv (OW B ρ) (OW B (ρ.set i (some (.grid a as (dss.set j (l.set k d)))))) H (upd H p (.lst (xs.set k v))) := by
    refine ⟨fun b o e' kk => ?_, fun b o e' kk z => kk (ow b z)⟩
    have ne : b ≠ p := by
      rintro rfl
      rcases kk with kk | kk
      · exact kk op
      · exact nt _ o e' kk rfl
    rw [upd_ne ne]
    exact e'
  have G' : Grid (upd H p (.lst (xs.set k v))) a as (dss.set j (l.set k d)) := by
    refine ⟨by rw [upd_ne pa]; exact G.top, G.nod, by rw [List.length_set]; exact G.len, fun jj b dd hb hd => ?_⟩
    by_cases c : jj = j
    · subst c
      rw [hp] at hb
      cases hb
      rw [List.getElem?_set_self (List.getElem?_eq_some_iff.mp hl).1] at hd
      cases hd
      refine ⟨_, upd_same, ?_, flats_set fl fd⟩
      refine IsAll.set ?_ k ?_
      · exact (is.flat_any (O' := fun _ => True) fd).mono ⟨fun b o e' kk => tups b o e' (kk.elim (fun z => absurd trivial z) id), fun _ _ _ z => absurd trivial z⟩
      · exact all.mono ⟨fun b o e' kk => tups b o e' (kk.elim (fun z => absurd trivial z) id), fun _ _ _ z => absurd trivial z⟩
    · rw [List.getElem?_set_ne (Ne.symm c)] at hd
      have bp : b ≠ p := fun z => by
        subst z
        have lj := (List.getElem?_eq_some_iff.mp hb).1
        exact c ((List.getElem?_inj lj (List.nodup_cons.mp G.nod).2).mp (hb.trans hp.symm))
      exact (G.row jj b dd hb hd).mono (upd_ne bp) tups
  have R2 := R.setCell (i := i) (v := .ref a) (c := .grid a as (dss.set j (l.set k d))) m ⟨rfl, G'⟩
    (fun b o z e' => by
      have ne : b ≠ p := by
        rintro rfl
        exact (R.adr i _ b e (.inr pm)).2.1 z
      rw [upd_ne ne]; exact e')
    (fun b o e' n' e'' => by
      have ne : b ≠ p := by
        rintro rfl
        rcases (R.adr i _ b e (.inr pm)).2.2 with z | z
        · exact n' z
        · rw [z] at e'; cases e'
      rw [upd_ne ne]; exact e'')
    (fun b z => ⟨G'.trk z, (R.adr i _ b e z).2⟩)
    (fun jj c' b ne hj z y => ne (R.inj jj i c' _ b hj e z y))
    tups
    (fun jj c' b o ne hj z e' => by
      have nb : b ≠ p := by
        rintro rfl
        exact ne (R.inj jj i c' _ b hj e z (.inr pm))
      rw [upd_ne nb]; exact e')
  rw [set_same h1] at R2
  exact ⟨R2, m⟩
def sSetIxG (i : Nat) (t1 t2 ta : DT) : DTS := fun E ρ => ta ρ fun o ρ1 => o.tk ρ1 fun d ρ2 => match ρ2[i]? with
  | some (some (.grid a as dss)) => t1 ρ2 fun o1 ρ3 => o1.rd ρ3 fun d1 => (match d1 with
    | .int n => ρ3[i]? = some (some (.grid a as dss)) ∧ ∃ j l, ixN dss.length n = some j ∧ dss[j]? = some l ∧ t2 ρ3 fun o2 ρ4 => o2.rd ρ4 fun d2 => (match d2 with
      | .int m => ρ4[i]? = some (some (.grid a as dss)) ∧ flat d = true ∧ ∃ k, ixN l.length m = some k ∧ E.nx (ρ4.set i (some (.grid a as (dss.set j (l.set k d)))))
      | _ => False)
    | _ => False)
  | _ => False
theorem ds_setIxG {i : Nat} {ix1 ix2 : Expr} {t1 t2 : DT} {p p1 spos : Pos} (hx : PE X (.Name x p) (tVar i)) (hi1 : DO X ix1 t1) (hi2 : DO X ix2 t2) (ha : DO X e ta) (hp1 : PlainIx ix1) (hs : swapsWithSole [.Subscript (.Subscript (.Name x p) ix1 p1) ix2 spos] e pos.line X.env = pure false := by rfl) (hw : swappedStores [.Subscript (.Subscript (.Name x p) ix1 p1) ix2 spos] e X.env = pure none := by rfl)
    (h1 : (assignEach [.Subscript (.Subscript (.Name x p) ix1 p1) ix2 spos] X.env).map (·.2) = [assign (.Subscript (.Subscript (.Name x p) ix1 p1) ix2 spos) X.env] := by rfl)
    (hga : ∀ v, assign (.Subscript (.Subscript (.Name x p) ix1 p1) ix2 spos) X.env v = (do
      let ov ← holding [v] (eval (.Subscript (.Name x p) ix1 p1) X.env)
      let iv ← holding [v, ov] (eval ix2 X.env)
      standAt spos
      holding [v, ov, iv] (setItem ov iv v)
      release [v, ov, iv] []) := by intro _; rfl) :
    DS X (.Assign [.Subscript (.Subscript (.Name x p) ix1 p1) ix2 spos] e pos) (sSetIxG i t1 t2 ta) := PS.imp (ps_asg ha (pg_sub (pe_ix ix_seq hx hi1 hp1) hi2 set_list hga) hs hw h1) fun D σ H ⟨B, ρ, E, R, t, k⟩ => by
  refine ⟨B, ρ, _, R, t, fun o ρ1 v H1 t1 m1 R1 i1 => ?_⟩
  obtain ⟨d, ρ2, h2, is, R2, m2⟩ := i1.tk R1 t1
  split at h2
  · rename_i a0 as dss h0
    refine ⟨_, (R2.grid h0).1, B, ρ2, _, R2, h2, fun o1 ρ3 v1 H3 t3 m3 R3 i3 => ?_⟩
    obtain ⟨d1, t3, r1⟩ := i3.rd R3 t3
    split at t3
    · rename_i n
      obtain ⟨e3, j, l, hj, hl, t3⟩ := t3
      have G3 := (R3.grid e3).2
      obtain ⟨p, xs, q1, q2, q3, q4, q5⟩ := G3.at hj hl
      refine .inl ⟨a0, _, n, .ref p, rfl, r1.int, SqL.of G3.top, q2, B, ρ3, _, R3, t3, fun o2 ρ4 v2 H4 t4 m4 R4 i4 => ?_⟩
      obtain ⟨d2, t4, r2⟩ := i4.rd R4 t4
      split at t4
      · rename_i m
        obtain ⟨e4, fd, kk, hk, t4⟩ := t4
        have G4 := (R4.grid e4).2
        obtain ⟨p', xs', q1', q2', q3', q4', q5'⟩ := G4.at hj hl
        rw [q1] at q1'
        cases q1'
        obtain ⟨R5, m5⟩ := R4.writeGrid e4 q1 hl q3' q4' q5' (k := kk) ((is.mono m3).mono m4) fd
        exact ⟨p, xs', m, kk, rfl, r2.int, q3', by rw [q4'.length]; exact hk, k.nx _ _ _ t4 ((((m1.trans m2).trans m3).trans m4).trans m5) R5⟩
      · exact t4.elim
    · exact t3.elim
  · exact h2.elim
/-- len(x), x a grid -/
def dLenG (i : Nat) : DT := fun ρ q => match ρ[i]? with
  | some (some (.grid _ _ dss)) => q (.vl (.int (dss.length : Nat))) ρ
  | _ => False
theorem do_lenG {i : Nat} {p p1 : Pos} (hg : Gl X "len") (hm : X.mg "len" = none) (hx : PE X (.Name x p1) (tVar i)) (he : starEach [.Name x p1] X.env = (false, eval (.Name x p1) X.env) :: starEach [] X.env := by rfl) : DO X (.Call (.Name "len" p) [.Name x p1] [] pos) (dLenG i) :=
  PE.imp (pe_callB call_len hg hm boot_len (pa_cons hx pa_nil he) (by decide) (by decide) he) fun σ H Q ⟨B, ρ, q, R, t, k⟩ => by
  unfold dLenG at t
  split at t
  · rename_i a0 as dss h0
    obtain ⟨h1, G⟩ := R.grid h0
    refine ⟨_, h1, _, _, rfl, .inl ⟨_, SqL.of G.top, rfl⟩, ?_⟩
    rw [List.length_map, G.len]
    exact k _ _ _ _ t .refl R (.int _)
  · exact t.elim
end
/-! ### f(..), the arguments handed on -/
section
variable {X : Cx} {e : Expr} {es : List Expr} {t : DTA} {pos p : Pos} {x : Str} {k n : Nat} {f : Addr} {fd : FuncData} {ps : List Str} {F : DF}
def dCallT (n : Nat) (F : DF) (t : DTA) : DT := fun ρ q => t ρ fun os ρ1 => os.length = n ∧ tkAll os ρ1 fun ds ρ2 => F ds fun d _ => q (.vl d) ρ2
theorem do_callT (G : FnOk X.prog X.w X.K X.mg X.base CX0 k f fd ps (spD false n F)) (hr : Room k X.A) (hg : Gl X x) (hm : X.mg x = some (.ref f)) (hk : PySem.W.keepIn X.K (.ref f) = true) (hb : Binds X.K fd ps [])
    (ha : DA X (e :: es) t) (hdb : (x == ("__debug__" : Str)) = false := by decide) (he : starEach (e :: es) X.env = (false, eval e X.env) :: starEach es X.env := by rfl) (hpl : (backTo pos (starEach es X.env)).any (·.1) = false := by rfl) :
    DO X (.Call (.Name x p) (e :: es) [] pos) (dCallT n F t) := PE.imp (pe_call G hr hg hm hk hb .nil pass0 ha hdb he hpl) fun σ H Q ⟨B, ρ, q, R, t, kk⟩ => by
  refine ⟨B, ρ, _, R, t, fun os ρ1 vs H1 t1 m1 R1 i1 => ?_⟩
  obtain ⟨hl, t1⟩ := t1
  obtain ⟨ds, ρ2, h2, is, R2, m2⟩ := OAll.tk R1 i1 t1
  rw [List.append_nil]
  refine ⟨by rw [Paired.length i1, hl], OW B ρ2, ds, _, fun a z => R2.ow z, h2, ?_⟩
  rw [if_neg Bool.false_ne_true]
  exact ⟨is, fun d' e' v' H' hq hs hv => kk _ _ _ _ hq ((m1.trans m2).trans (.same hs)) (R2.same hs) hv⟩
end
end DL
namespace DL
open PySem PySem.Spec PyProof.Rows L2

/-! ### loops, told by an invariant -/
theorem forGo_inv {g : DTG} {u : DTS} {E : DEnds} (I : List PyData → DEnv → Prop) (done : ∀ ρ, I [] ρ → E.nx ρ)
    (step : ∀ d r ρ (N : DEnv → Prop), (∀ ρ', I r ρ' → N ρ') → I (d :: r) ρ → g d ρ fun ρ1 => u { E with nx := N, ct := N, bk := E.nx } ρ1) : ∀ ds ρ, I ds ρ → forGo g u E ds ρ
  | [], ρ, h => done ρ h
  | d :: r, ρ, h => step d r ρ _ (fun ρ' h' => forGo_inv I done step r ρ' h') h
/-- a comprehension that leaves the names as they are -/
theorem lcGo_map {g : DTG} {tt : DTT} {te : DT} {vs : List Nat} {ρ : DEnv} (f : PyData → PyData) (hp : plainC ρ vs = true) : ∀ (ds acc : List PyData) (q : PyData → DEnv → Prop),
    (∀ d ∈ ds, ∀ (Q1 : PyData → DEnv → Prop) (Q2 : DEnv → Prop), (∀ ρ4, backD ρ ρ4 vs = ρ → Q1 (f d) ρ4) → g d (wipeD ρ vs) fun ρ1 => tt ρ1 fun b ρ2 => if b = true then te ρ2 fun o ρ3 => o.tk ρ3 Q1 else Q2 ρ2) →
    acc.length + ds.length ≤ 16777216 → q (.list (acc ++ ds.map f)) ρ → lcGo g tt te vs ds acc ρ q
  | [], acc, q, _, _, h => by
    rw [List.map_nil, List.append_nil] at h
    exact h
  | d :: r, acc, q, step, hl, h => by
    refine step d (List.mem_cons_self ..) _ _ fun ρ4 e => ?_
    rw [List.length_cons] at hl
    refine ⟨by omega, ?_, ?_⟩
    · rw [e]; exact hp
    · rw [e]
      refine lcGo_map f hp r (acc ++ [f d]) q (fun d' hd => step d' (List.mem_cons_of_mem _ hd)) ?_ ?_
      · rw [List.length_append, List.length_singleton]; omega
      · rw [List.append_assoc]
        exact h

/-! ### roads as truths: L is false, R is true -/
def sg (b : Bool) : Nat := if b then 82 else 76
def enc (w : List Bool) : List Nat := w.map sg
abbrev Wd (w : List Bool) : PyData := S (enc w)
theorem enc_len (w : List Bool) : (enc w).length = w.length := List.length_map ..
theorem enc_app (a b : List Bool) : enc (a ++ b) = enc a ++ enc b := List.map_append ..
theorem sg_inj {a b : Bool} (h : sg a = sg b) : a = b := by
  cases a <;> cases b <;> first | rfl | (exact absurd h (by decide))
theorem enc_inj : ∀ {a b : List Bool}, enc a = enc b → a = b
  | [], [], _ => rfl
  | [], _ :: _, h => by cases h
  | _ :: _, [], h => by cases h
  | x :: a, y :: b, h => by
    simp only [enc, List.map_cons, List.cons.injEq] at h
    rw [sg_inj h.1, enc_inj (show enc a = enc b from h.2)]
theorem Wd_inj {a b : List Bool} (h : Wd a = Wd b) : a = b := by
  have : mk (enc a) = mk (enc b) := by injection h
  exact enc_inj (mk_inj this)

/-! ### truths -/
theorem ifb {k : PyData → Prop} {b : Bool} (c : Bool) (h : b = c) (hk : k (.bool c)) : k (.bool b) := by
  subst h
  exact hk
theorem eqv_int (a b : Int) : PyData.eqv (.int a) (.int b) = decide (a = b) := by
  show (a == b) = _
  rw [Bool.eq_iff_iff]; simp
theorem eqv_str (a b : Str) : PyData.eqv (.str a) (.str b) = decide (a = b) := by
  show (a == b) = _
  rw [Bool.eq_iff_iff]; simp
theorem eqv_Wd (a b : List Bool) : PyData.eqv (Wd a) (Wd b) = decide (a = b) := by
  rw [show PyData.eqv (Wd a) (Wd b) = decide (mk (enc a) = mk (enc b)) from eqv_str _ _]
  refine decide_eq_decide.mpr ⟨fun h => enc_inj (mk_inj h), fun h => by rw [h]⟩
theorem strOk_mk {l : List Nat} (h : ∀ c ∈ l, c < 1114112) : PyData.strOk (mk l) = true := by
  unfold PyData.strOk mk
  rw [List.all_toArray, List.all_eq_true]
  intro c hc
  exact decide_eq_true (h c hc)
theorem shaped_S {l : List Nat} (h : ∀ c ∈ l, c < 1114112) : SeqAt.shaped (S l) = true := by
  unfold SeqAt.shaped
  simp only [PyData.canLay0, PyData.depth, strOk_mk h]
  rfl
theorem sg_lt (b : Bool) : sg b < 1114112 := by cases b <;> decide
theorem enc_lt (w : List Bool) : ∀ c ∈ enc w, c < 1114112 := fun c hc => by
  obtain ⟨b, _, rfl⟩ := List.mem_map.mp hc
  exact sg_lt b
theorem shaped_Wd (w : List Bool) : SeqAt.shaped (Wd w) = true := shaped_S (enc_lt w)
theorem shaped_sg (b : Bool) : SeqAt.shaped (S [sg b]) = true := shaped_Wd [b]
theorem shaped_int (i : Int) : SeqAt.shaped (.int i) = true := by
  unfold SeqAt.shaped
  simp [PyData.canLay0, PyData.depth]
def joinN (s : List Nat) : List (List Nat) → List Nat
  | [] => []
  | [p] => p
  | p :: q :: r => p ++ s ++ joinN s (q :: r)
theorem mk_app (a b : List Nat) : mk a ++ mk b = mk (a ++ b) := (L_app (mk a) (mk b)).symm
theorem join_mk (s : List Nat) (ps : List (List Nat)) : Txt.join (mk s) (ps.map mk) = mk (joinN s ps) := by
  have e : Txt.join (mk s) (ps.map mk) = Str.join (mk s) (ps.map mk) := StrLaws.glued_eq_join _ _
  rw [e]
  clear e
  induction ps with
  | nil => rfl
  | cons p r ih =>
    cases r with
    | nil => rfl
    | cons q r =>
      show mk p ++ mk s ++ Str.join (mk s) ((q :: r).map mk) = _
      rw [ih, mk_app, mk_app]
      rfl
theorem joinN_nil : ∀ (ps : List (List Nat)), joinN [] ps = ps.flatten
  | [] => rfl
  | [p] => by simp [joinN]
  | p :: q :: r => by
    show p ++ [] ++ joinN [] (q :: r) = _
    rw [joinN_nil (q :: r), List.append_nil]
    rfl
theorem enc_flat : ∀ (ws : List (List Bool)), (ws.map enc).flatten = enc ws.flatten
  | [] => rfl
  | w :: ws => by
    rw [List.map_cons, List.flatten_cons, enc_flat ws, List.flatten_cons, enc_app]
theorem join_none (ws : List (List Bool)) : Txt.join (mk []) (ws.map fun w => mk (enc w)) = mk (enc ws.flatten) := by
  have e : (ws.map fun w => mk (enc w)) = (ws.map enc).map mk := by rw [List.map_map]; rfl
  rw [e, join_mk, joinN_nil, enc_flat]

/-! ### slices -/
theorem cut_from {α : Type} {xs : List α} {k : Nat} : cutD xs (some (k : Int)) none = xs.drop k := by
  unfold cutD
  rw [HT.sIx_nat, HT.sIx_none]
  by_cases h : k ≤ xs.length
  · rw [Nat.min_eq_left h]
    exact List.take_of_length_le (by rw [List.length_drop]; omega)
  · rw [Nat.min_eq_right (by omega), List.drop_eq_nil_of_le (Nat.le_refl _), List.drop_eq_nil_of_le (show xs.length ≤ k by omega)]
    simp
theorem cut_to {α : Type} {xs : List α} {k : Nat} : cutD xs none (some (k : Int)) = xs.take k := by
  unfold cutD
  rw [HT.sIx_nat, HT.sIx_none, List.drop_zero, Nat.sub_zero]
  by_cases h : k ≤ xs.length
  · rw [Nat.min_eq_left h]
  · rw [Nat.min_eq_right (by omega), List.take_of_length_le (Nat.le_refl _), List.take_of_length_le (show xs.length ≤ k by omega)]
theorem cut_mid {α : Type} {xs : List α} {k j : Nat} (h : j ≤ xs.length) (hk : k ≤ xs.length) : cutD xs (some (k : Int)) (some (j : Int)) = (xs.drop k).take (j - k) := by
  unfold cutD
  rw [HT.sIx_nat, HT.sIx_nat, Nat.min_eq_left h, Nat.min_eq_left hk]
theorem cut_enc (w : List Bool) (lo hi : Option Int) : cutD (enc w) lo hi = enc (cutD w lo hi) := by
  unfold cutD enc
  rw [List.length_map, List.map_take, List.map_drop]
theorem at_enc {w : List Bool} {k : Nat} {b : Bool} (h : w[k]? = some b) : atI (enc w) (k : Int) = some (sg b) := atI_nat (by unfold enc; rw [List.getElem?_map, h]; rfl)

/-! ### while and if, the test told apart -/
theorem while_of {s : DTT} {u : DTS} {E : DEnds} {ρ : DEnv} (W : Nat → DEnv → Prop) (h0 : ∃ m, W m ρ)
    (turn : ∀ m ρ, W m ρ → ∃ b : Bool, (∀ K : Bool → DEnv → Prop, K b ρ → s ρ K) ∧ (b = true → ∀ N : DEnv → Prop, (∀ ρ' m', m' < m → W m' ρ' → N ρ') → u { E with nx := N, ct := N, bk := E.nx } ρ) ∧ (b = false → E.nx ρ)) : sWhile s u E ρ := by
  refine ⟨W, h0, fun m ρ w => ?_⟩
  obtain ⟨b, ht, h1, h2⟩ := turn m ρ w
  refine ht _ ?_
  cases b with
  | true => exact h1 rfl _ fun ρ' m' lt w' => ⟨m', lt, w'⟩
  | false => exact h2 rfl
theorem if_of {s : DTT} {u v : DTS} {E : DEnds} {ρ : DEnv} (b : Bool) (ht : ∀ K : Bool → DEnv → Prop, K b ρ → s ρ K) (h1 : b = true → u E ρ) (h2 : b = false → v E ρ) : sIf s u v E ρ := by
  refine ht _ ?_
  cases b with
  | true => exact h1 rfl
  | false => exact h2 rfl
/-- one statement behind another, the names between them told -/
theorem seq_mid {u v : DTS} {E : DEnds} {ρ : DEnv} (ρ' : DEnv) (h1 : ∀ N : DEnv → Prop, N ρ' → u { E with nx := N } ρ) (h2 : v E ρ') : sSeq u v E ρ := h1 _ h2
end DL
namespace DL
open PySem PySem.Spec PyProof.Rows L2
/-! ### readings, opened by simp -/
/-- simp leaves k as it is in what is told with a tag of k -/
structure Tag {α : Type} (k : α) : Type where
/-- looked up, then k -/
def optP {α : Type} (o : Option α) (k : α → Prop) (_ : Tag k) : Prop := ∃ r, o = some r ∧ k r
@[simp] theorem optP_some {α : Type} {r : α} {k : α → Prop} {t : Tag k} : optP (some r) k t = k r := propext ⟨fun ⟨_, e, h⟩ => by cases e; exact h, fun h => ⟨_, rfl, h⟩⟩
@[simp] theorem optP_none {α : Type} {k : α → Prop} {t : Tag k} : optP none k t = False := propext ⟨fun ⟨_, e, _⟩ => (by cases e), False.elim⟩
@[simp] theorem optP_map {α β : Type} {f : β → α} {o : Option β} {k : α → Prop} {t : Tag k} : optP (o.map f) k t = optP o (fun r => k (f r)) ⟨⟩ := by
  cases o <;> simp
/-- a def's promise is asked; what comes behind it is left as it is -/
def callP (F : DF) (ds : List PyData) (k : PyData → PyData → Prop) (_ : Tag k) : Prop := F ds k
/-- a grid's turns -/
def grP (g : DTG) (te : DTF) (vs : List Nat) (ds : List PyData) (acc : List (List PyData)) (ρ : DEnv) (q : List (List PyData) → DEnv → Prop) (_ : Tag q) : Prop := gridGo g te vs ds acc ρ q
/-- a comprehension's turns -/
def lcP (g : DTG) (tt : DTT) (te : DT) (vs : List Nat) (ds acc : List PyData) (ρ : DEnv) (q : PyData → DEnv → Prop) (_ : Tag q) : Prop := lcGo g tt te vs ds acc ρ q
def dcP (g : DTG) (tt : DTT) (tk tv : DT) (vs : List Nat) (ds : List PyData) (acc : List (PyData × PyData)) (ρ : DEnv) (q : PyData → DEnv → Prop) (_ : Tag q) : Prop := dcGo g tt tk tv vs ds acc ρ q
section
variable {i j l n : Nat} {ρ : DEnv} {E : DEnds} {u v : DTS} {ta tb tc tk tv : DT} {t tr : DTA} {s : DTT} {F : DF} {d e : PyData} {ds es : List PyData} {a : Addr} {tf : DTF} {te : DT} {ti : DTI} {g : DTG} {h : DTGs}
variable {q : OV → DEnv → Prop} {qa : List OV → DEnv → Prop} {qb : Bool → DEnv → Prop} {qd : PyData → Prop} {qf : PyData → DEnv → Prop} {qp : Option Int → DEnv → Prop} {qi : List PyData → DEnv → Prop} {qn : DEnv → Prop} {k : PyData → Prop} {kt : PyData → DEnv → Prop} {c : Cell} {f : Bool → Bool} {p : Addr}
@[simp ↓] theorem e_dN : dN i ρ q = (match ρ[i]? with | some (some _) => q (.nm i) ρ | _ => False) := id rfl
@[simp ↓] theorem e_dC : dC d ρ q = q (.vl d) ρ := id rfl
@[simp ↓] theorem e_d2 {g : D2} : d2 g ta tb ρ q = (ta ρ fun oa ρ1 => tb ρ1 fun ob ρ2 => oa.rd ρ2 fun d => ob.rd ρ2 fun e => g d e fun r => q (.vl r) ρ2) := id rfl
@[simp ↓] theorem e_d2x {g : D2} : d2x g ta tb ρ q = (ta ρ fun oa ρ1 => tb ρ1 fun ob ρ2 => oa.rdx ρ2 fun d => ob.rdx ρ2 fun e => g d e fun r => q (.vl r) ρ2) := id rfl
@[simp ↓] theorem e_d1 {g : D1} : d1 g ta ρ q = (ta ρ fun oa ρ1 => oa.rd ρ1 fun d => g d fun r => q (.vl r) ρ1) := id rfl
@[simp ↓] theorem e_rdv : (OV.vl d).rd ρ k = k d := id rfl
@[simp ↓] theorem e_rdn : (OV.nm i).rd ρ k = (match ρ[i]? with | some (some (.val d)) => k d | some (some (.own _ d)) => k d | some (some (.lck _ d)) => k d | _ => False) := id rfl
@[simp ↓] theorem e_rdxv : (OV.vl d).rdx ρ k = k d := id rfl
@[simp ↓] theorem e_rdxn : (OV.nm i).rdx ρ k = (match ρ[i]? with | some (some (.val d)) => k d | some (some (.own _ d)) => k d | some (some (.deep _ d)) => k d | some (some (.lck _ d)) => k d | some (some (.grid _ _ dss)) => k (gridD dss) | _ => False) := id rfl
@[simp ↓] theorem e_tkv : (OV.vl d).tk ρ kt = kt d ρ := id rfl
@[simp ↓] theorem e_tkn : (OV.nm i).tk ρ kt = (match ρ[i]? with | some (some (.val d)) => kt d ρ | some (some (.own _ d)) => kt d (ρ.set i (some (.val d))) | some (some (.deep _ d)) => kt d (ρ.set i (some (.val d))) | some (some (.lck _ d)) => kt d ρ | some (some (.grid _ _ dss)) => kt (gridD dss) (ρ.set i (some (.val (gridD dss)))) | _ => False) := id rfl
@[simp ↓] theorem e_gII {C : Int → Int → Prop} {g : Int → Int → PyData} {x y : Int} : gII C g (.int x) (.int y) qd = (C x y ∧ qd (g x y)) := id rfl
@[simp ↓] theorem e_gAddI {x y : Int} : gAdd (.int x) (.int y) qd = qd (.int (x + y)) := id rfl
@[simp ↓] theorem e_gAddS {x y : Str} : gAdd (.str x) (.str y) qd = ((L x).length + (L y).length ≤ 16777216 ∧ qd (S (L x ++ L y))) := id rfl
@[simp ↓] theorem e_gCat : gCat (.list ds) (.list es) qd = (ds.length + es.length ≤ 16777216 ∧ qd (.list (ds ++ es))) := id rfl
@[simp ↓] theorem e_gNeg {x : Int} : gNeg (.int x) qd = qd (.int (-x)) := id rfl
@[simp ↓] theorem e_gNot {b : Bool} : gNot (.bool b) qd = qd (.bool (!b)) := id rfl
@[simp ↓] theorem e_gMulS {x : Str} {y : Int} : gMulS (.str x) (.int y) qd = (0 ≤ y ∧ y ≤ 16777216 ∧ (L x).length * y.toNat ≤ 16777216 ∧ qd (S (repS (L x) y))) := id rfl
@[simp ↓] theorem e_gEq : gEq f d e qd = (SeqAt.shaped d = true ∧ SeqAt.shaped e = true ∧ qd (.bool (f (PyData.eqv d e)))) := id rfl
@[simp ↓] theorem e_gEqS {x y : Str} : gEqS f (.str x) (.str y) qd = qd (.bool (f (decide (x = y)))) := id rfl
@[simp ↓] theorem e_isNoneN : isNone .none = true := id rfl
@[simp ↓] theorem e_isNoneI {x : Int} : isNone (.int x) = false := id rfl
@[simp ↓] theorem e_isNoneS {x : Str} : isNone (.str x) = false := id rfl
@[simp ↓] theorem e_isNoneB {x : Bool} : isNone (.bool x) = false := id rfl
@[simp ↓] theorem e_isNoneL : isNone (.list ds) = false := id rfl
@[simp ↓] theorem e_isNoneT : isNone (.tuple ds) = false := id rfl
@[simp ↓] theorem e_gIs : gIs f d e qd = (isNone e = true ∧ qd (.bool (f (isNone d)))) := id rfl
@[simp ↓] theorem e_dB : dB ta ρ qb = (ta ρ fun o ρ' => o.rd ρ' fun d => match d with | .bool b => qb b ρ' | _ => False) := id rfl
@[simp ↓] theorem e_dNot : dNot s ρ qb = (s ρ fun b ρ' => qb (!b) ρ') := id rfl
@[simp ↓] theorem e_dAnd {s' : DTT} : dAnd s s' ρ qb = (s ρ fun b ρ' => if b = true then s' ρ' qb else qb false ρ') := id rfl
@[simp ↓] theorem e_dOr {s' : DTT} : dOr s s' ρ qb = (s ρ fun b ρ' => if b = true then qb true ρ' else s' ρ' qb) := id rfl
@[simp ↓] theorem e_dIf : dIf s ta tb ρ q = (s ρ fun b ρ' => if b = true then ta ρ' q else tb ρ' q) := id rfl
@[simp ↓] theorem e_dCh {g h : D2} : dCh g h ta tb tc ρ q = (ta ρ fun oa ρ1 => tb ρ1 fun ob ρ2 => oa.rd ρ2 fun d => ob.rd ρ2 fun e => g d e fun r => match r with
  | .bool b => if b = true then tc ρ2 (fun oc ρ3 => ob.rd ρ3 fun e' => oc.rd ρ3 fun f => h e' f fun r' => q (.vl r') ρ3) else q (.vl (.bool false)) ρ2
  | _ => False) := id rfl
@[simp ↓] theorem e_rdAll0 {k : List PyData → Prop} : rdAll [] ρ k = k [] := id rfl
@[simp ↓] theorem e_rdAll1 {k : List PyData → Prop} {o : OV} {os : List OV} : rdAll (o :: os) ρ k = (o.rd ρ fun d => rdAll os ρ fun ds => k (d :: ds)) := id rfl
@[simp ↓] theorem e_rdX0 {k : List PyData → Prop} : rdAllX [] ρ k = k [] := id rfl
@[simp ↓] theorem e_rdX1 {k : List PyData → Prop} {o : OV} {os : List OV} : rdAllX (o :: os) ρ k = (o.rdx ρ fun d => rdAllX os ρ fun ds => k (d :: ds)) := id rfl
@[simp ↓] theorem e_tkAll0 {k : List PyData → DEnv → Prop} : tkAll [] ρ k = k [] ρ := id rfl
@[simp ↓] theorem e_tkAll1 {k : List PyData → DEnv → Prop} {o : OV} {os : List OV} : tkAll (o :: os) ρ k = (o.tk ρ fun d ρ' => tkAll os ρ' fun ds ρ'' => k (d :: ds) ρ'') := id rfl
@[simp ↓] theorem e_dNil : dNil ρ qa = qa [] ρ := id rfl
@[simp ↓] theorem e_dCons : dCons ta tr ρ qa = (ta ρ fun o ρ1 => tr ρ1 fun os ρ2 => qa (o :: os) ρ2) := id rfl
@[simp ↓] theorem e_dTup : dTup t ρ q = (t ρ fun os ρ1 => tkAll os ρ1 fun ds ρ2 => ds.length ≤ 16777216 ∧ q (.vl (.tuple ds)) ρ2) := id rfl
@[simp ↓] theorem e_dLst : dLst t ρ q = (t ρ fun os ρ1 => tkAll os ρ1 fun ds ρ2 => ds.length ≤ 16777216 ∧ q (.vl (.list ds)) ρ2) := id rfl
@[simp ↓] theorem e_gIxL {x : Int} : gIx (.list ds) (.int x) qd = optP (atI ds x) qd ⟨⟩ := id rfl
@[simp ↓] theorem e_gIxT {x : Int} : gIx (.tuple ds) (.int x) qd = optP (atI ds x) qd ⟨⟩ := id rfl
@[simp ↓] theorem e_gIxS {x : Int} {z : Str} : gIx (.str z) (.int x) qd = ((L z).length ≤ 16777216 ∧ optP (atI (L z) x) (fun c => qd (S [c])) ⟨⟩) := id rfl
@[simp ↓] theorem e_dNoP : dNoP ρ qp = qp none ρ := id rfl
@[simp ↓] theorem e_dPt : dPt ta ρ qp = (ta ρ fun o ρ' => o.rd ρ' fun d => match d with | .int i => qp (some i) ρ' | _ => False) := id rfl
@[simp ↓] theorem e_dSl {tl th : DTO} : dSl ta tl th ρ q = (ta ρ fun oa ρ1 => tl ρ1 fun lo ρ2 => th ρ2 fun hi ρ3 => oa.rd ρ3 fun d => gSl lo hi d fun r => q (.vl r) ρ3) := id rfl
@[simp ↓] theorem e_gSlS {lo hi : Option Int} {x : Str} : gSl lo hi (.str x) qd = ((L x).length ≤ 16777216 ∧ qd (S (cutD (L x) lo hi))) := id rfl
@[simp ↓] theorem e_gSlL {lo hi : Option Int} : gSl lo hi (.list ds) qd = qd (.list (cutD ds lo hi)) := id rfl
@[simp ↓] theorem e_gSlT {lo hi : Option Int} : gSl lo hi (.tuple ds) qd = qd (.tuple (cutD ds lo hi)) := id rfl
@[simp ↓] theorem e_dB1 {g : DG} : dB1 g t ρ q = (t ρ fun os ρ1 => rdAll os ρ1 fun ds => g ds fun r => q (.vl r) ρ1) := id rfl
@[simp ↓] theorem e_g1 {g : D1} : g1 g [d] qd = g d qd := id rfl
@[simp ↓] theorem e_g2 {g : D2} : g2 g [d, e] qd = g d e qd := id rfl
@[simp ↓] theorem e_gLenS {x : Str} : gLen (.str x) qd = ((L x).length ≤ 16777216 ∧ qd (.int ((L x).length : Nat))) := id rfl
@[simp ↓] theorem e_gLenL : gLen (.list ds) qd = qd (.int (ds.length : Nat)) := id rfl
@[simp ↓] theorem e_gLenT : gLen (.tuple ds) qd = qd (.int (ds.length : Nat)) := id rfl
@[simp ↓] theorem e_gAbs {x : Int} : gAbs (.int x) qd = qd (.int (if x < 0 then -x else x)) := id rfl
@[simp ↓] theorem e_gInt {x : Int} : gInt (.int x) qd = qd (.int x) := id rfl
@[simp ↓] theorem e_gAll {f : List Bool → Bool} : gAll f (.list ds) qd = optP (boolsOf ds) (fun bs => qd (.bool (f bs))) ⟨⟩ := id rfl
@[simp ↓] theorem e_gListL : gListOf (.list ds) qd = qd (.list ds) := id rfl
@[simp ↓] theorem e_gListT : gListOf (.tuple ds) qd = qd (.list ds) := id rfl
@[simp ↓] theorem e_gTupL : gTupOf (.list ds) qd = qd (.tuple ds) := id rfl
@[simp ↓] theorem e_gTupT : gTupOf (.tuple ds) qd = qd (.tuple ds) := id rfl
@[simp ↓] theorem e_gBest {f : List Int → Int} : gBestL f d qd = optP (seq2D d) (fun ds => optP (intsOf ds) (fun ns => 0 < ns.length ∧ qd (.int (f ns))) ⟨⟩) ⟨⟩ := propext ⟨fun ⟨ds, ns, h1, h2, h3⟩ => ⟨ds, h1, ns, h2, h3⟩, fun ⟨ds, h1, ns, h2, h3⟩ => ⟨ds, ns, h1, h2, h3⟩⟩
@[simp ↓] theorem e_seq2L : seq2D (.list ds) = some ds := id rfl
@[simp ↓] theorem e_seq2T : seq2D (.tuple ds) = some ds := id rfl
@[simp ↓] theorem e_ints0 : intsOf [] = some [] := id rfl
@[simp ↓] theorem e_ints1 {x : Int} : intsOf (.int x :: ds) = (intsOf ds).map (x :: ·) := id rfl
@[simp ↓] theorem e_dM1 {g : D2} : dM1 g ta tb ρ q = (ta ρ fun oa ρ1 => oa.rd ρ1 fun d => match d with
  | .str x => tb ρ1 fun ob ρ2 => ob.rd ρ2 fun e => g (.str x) e fun r => q (.vl r) ρ2
  | _ => False) := id rfl
@[simp ↓] theorem e_gJoin {x : Str} : gJoin (.str x) (.list ds) qd = optP (strsOf ds) (fun ys => (ys.map (·.length)).sum + ys.length * x.length ≤ 16777216 ∧ qd (.str (Txt.join x ys))) ⟨⟩ := id rfl
@[simp ↓] theorem e_gStarts {x y : Str} : gStarts (.str x) (.str y) qd = qd (.bool (Txt.startswith x y)) := id rfl
@[simp ↓] theorem e_gInS {x y : Str} : gInS f (.str x) (.str y) qd = (∃ c, L x = [c] ∧ qd (.bool (f (decide (c ∈ L y))))) := id rfl
@[simp ↓] theorem e_gRevS {z : Str} : gRevS (.str z) qd = (z.length ≤ 16777216 ∧ qd (.str (mk (L z).reverse))) := id rfl
@[simp ↓] theorem e_dCall : dCall n F t ρ q = (t ρ fun os ρ1 => os.length = n ∧ rdAllX os ρ1 fun ds => callP F ds (fun d _ => (flat d = true ∨ noOwn ρ1 os = true) ∧ q (.vl d) ρ1) ⟨⟩) := id rfl
@[simp ↓] theorem e_dCallT : dCallT n F t ρ q = (t ρ fun os ρ1 => os.length = n ∧ tkAll os ρ1 fun ds ρ2 => callP F ds (fun d _ => q (.vl d) ρ2) ⟨⟩) := id rfl
@[simp ↓] theorem e_noOwn0 : noOwn ρ [] = true := id rfl
@[simp ↓] theorem e_noOwn1 {o : OV} {os : List OV} : noOwn ρ (o :: os) = (noOwn1 ρ o && noOwn ρ os) := id rfl
@[simp ↓] theorem e_noOwnv : noOwn1 ρ (.vl d) = true := id rfl
@[simp ↓] theorem e_noOwnn : noOwn1 ρ (.nm i) = (match ρ[i]? with | some (some (.val _)) => true | some (some (.lck _ _)) => true | _ => false) := id rfl
@[simp ↓] theorem e_dCallM : dCallM n F t ρ q = (t ρ fun os ρ1 => os.length = n ∧ match os with
  | .nm i :: os' => tkAll os' ρ1 fun es ρ2 => (match ρ2[i]? with
    | some (some (.own a d0)) => callP F (d0 :: es) (fun d e => q (.vl d) (ρ2.set i (some (.own a e)))) ⟨⟩
    | _ => False)
  | _ => False) := id rfl
@[simp ↓] theorem e_dCallN : dCallN n F t ρ q = (t ρ fun os ρ1 => os.length = n ∧ rdAllX os ρ1 fun ds => callP F ds (fun d _ => Apart ds d ∧ q (.vl d) ρ1) ⟨⟩) := id rfl
@[simp ↓] theorem e_dKw2 : dKw2 F t ρ q = (t ρ fun os ρ1 => os.length = 2 ∧ rdAllX os ρ1 fun ds => callP F ds.reverse (fun d _ => (flat d = true ∨ noOwn ρ1 os = true) ∧ q (.vl d) ρ1) ⟨⟩) := id rfl
@[simp ↓] theorem e_dKw2N : dKw2N F t ρ q = (t ρ fun os ρ1 => os.length = 2 ∧ rdAllX os ρ1 fun ds => callP F ds.reverse (fun d _ => Apart ds d ∧ q (.vl d) ρ1) ⟨⟩) := id rfl
@[simp ↓] theorem e_dRepr : dRepr ta ρ q = (ta ρ fun o ρ1 => o.rdx ρ1 fun d => Shows d ∧ q (.vl (.str d.shown)) ρ1) := id rfl
@[simp ↓] theorem e_sNext : sNext E ρ = E.nx ρ := id rfl
@[simp ↓] theorem e_sSeq : sSeq u v E ρ = u { E with nx := v E } ρ := id rfl
@[simp ↓] theorem e_sBreak : sBreak E ρ = E.bk ρ := id rfl
@[simp ↓] theorem e_sCont : sCont E ρ = E.ct ρ := id rfl
@[simp ↓] theorem e_sNever : sNever E ρ = False := id rfl
@[simp ↓] theorem e_sDrop : sDrop ta E ρ = (ta ρ fun _ ρ' => E.nx ρ') := id rfl
@[simp ↓] theorem e_sRet : sRet ta E ρ = (ta ρ fun o ρ1 => o.tk ρ1 E.rt) := id rfl
@[simp ↓] theorem e_sRetN : sRetN E ρ = E.rt .none ρ := id rfl
@[simp ↓] theorem e_sIf : sIf s u v E ρ = (s ρ fun b ρ' => if b = true then u E ρ' else v E ρ') := id rfl
@[simp ↓] theorem e_sSet : sSet i ta E ρ = (ta ρ fun o ρ1 => o.tk ρ1 fun d ρ2 => E.nx (ρ2.set i (some (.val d)))) := id rfl
@[simp ↓] theorem e_fLst : fLst t ρ qf = (t ρ fun os ρ1 => tkAll os ρ1 fun ds ρ2 => ds.length ≤ 16777216 ∧ qf (.list ds) ρ2) := id rfl
@[simp ↓] theorem e_sSetF : sSetF i tf E ρ = (tf ρ fun d ρ' => ∀ p, E.nx (ρ'.set i (some (.own p d)))) := id rfl
@[simp ↓] theorem e_sSetV : sSetV i tf E ρ = (tf ρ fun d ρ' => E.nx (ρ'.set i (some (.val d)))) := id rfl
@[simp ↓] theorem e_dOfF : dOfF tf ρ q = (tf ρ fun d ρ' => q (.vl d) ρ') := id rfl
@[simp ↓] theorem e_tgN : tgN i d ρ qn = qn (ρ.set i (some (.val d))) := id rfl
@[simp ↓] theorem e_tgNil : tgNil ds ρ qn = (ds = [] ∧ qn ρ) := id rfl
@[simp ↓] theorem e_tgCons : tgCons g h (d :: ds) ρ qn = (g d ρ fun ρ' => h ds ρ' qn) := id rfl
@[simp ↓] theorem e_tgSeqT : tgSeq n h (.tuple ds) ρ qn = (ds.length = n ∧ h ds ρ qn) := id rfl
@[simp ↓] theorem e_tgSeqL : tgSeq n h (.list ds) ρ qn = (ds.length = n ∧ h ds ρ qn) := id rfl
@[simp ↓] theorem e_sAsg : sAsg ta g E ρ = (ta ρ fun o ρ1 => o.tk ρ1 fun d ρ2 => g d ρ2 E.nx) := id rfl
@[simp ↓] theorem e_sAug {g : D2} : sAug i g ta E ρ = ((OV.nm i).rd ρ fun d => ta ρ fun o ρ1 => o.rd ρ1 fun e => g d e fun r => E.nx (ρ1.set i (some (.val r)))) := id rfl
@[simp ↓] theorem e_iAny : iAny ta ρ qi = (ta ρ fun o ρ1 => o.tk ρ1 fun d ρ2 => optP (seqD d) (fun ds => qi ds ρ2) ⟨⟩) := id rfl
@[simp ↓] theorem e_seqDL : seqD (.list ds) = some ds := id rfl
@[simp ↓] theorem e_seqDT : seqD (.tuple ds) = some ds := id rfl
@[simp ↓] theorem e_forGo0 : forGo g u E [] ρ = E.nx ρ := id rfl
@[simp ↓] theorem e_forGo1 : forGo g u E (d :: ds) ρ = g d ρ fun ρ1 => u { E with nx := fun ρ2 => forGo g u E ds ρ2, ct := fun ρ2 => forGo g u E ds ρ2, bk := E.nx } ρ1 := id rfl
@[simp ↓] theorem e_sFor : sFor ti g u E ρ = (ti ρ fun ds ρ1 => forGo g u E ds ρ1) := id rfl
@[simp ↓] theorem e_fLc {vs : List Nat} : fLc ti g s te vs ρ qf = (ti ρ fun ds ρ1 => plainC ρ1 vs = true ∧ lcP g s te vs ds [] ρ1 qf ⟨⟩) := id rfl
@[simp ↓] theorem e_lcP0 {vs : List Nat} {acc : List PyData} {tg : Tag qf} : lcP g s te vs [] acc ρ qf tg = qf (.list acc) ρ := id rfl
@[simp ↓] theorem e_lcP1 {vs : List Nat} {acc : List PyData} {tg : Tag qf} : lcP g s te vs (d :: ds) acc ρ qf tg = (g d (wipeD ρ vs) fun ρ1 => s ρ1 fun b ρ2 =>
    if b = true then te ρ2 fun o ρ3 => o.tk ρ3 fun e ρ4 => acc.length < 16777216 ∧ plainC (backD ρ ρ4 vs) vs = true ∧ lcP g s te vs ds (acc ++ [e]) (backD ρ ρ4 vs) qf ⟨⟩
    else plainC (backD ρ ρ2 vs) vs = true ∧ lcP g s te vs ds acc (backD ρ ρ2 vs) qf ⟨⟩) := id rfl
@[simp ↓] theorem e_fDc {vs : List Nat} : fDc ti g s tk tv vs ρ qf = (ti ρ fun ds ρ1 => plainC ρ1 vs = true ∧ dcP g s tk tv vs ds [] ρ1 qf ⟨⟩) := id rfl
@[simp ↓] theorem e_dcP0 {vs : List Nat} {acc : List (PyData × PyData)} {tg : Tag qf} : dcP g s tk tv vs [] acc ρ qf tg = qf (.dict acc) ρ := id rfl
@[simp ↓] theorem e_dcP1 {vs : List Nat} {acc : List (PyData × PyData)} {tg : Tag qf} : dcP g s tk tv vs (d :: ds) acc ρ qf tg = (g d (wipeD ρ vs) fun ρ1 => s ρ1 fun b ρ2 =>
    if b = true then tk ρ2 fun ok ρ3 => tv ρ3 fun ov ρ4 => ok.rd ρ4 fun ek => ov.tk ρ4 fun ed ρ5 => isKey ek = true ∧ acc.length < 16777216 ∧ plainC (backD ρ ρ5 vs) vs = true ∧ dcP g s tk tv vs ds (dPutD acc ek ed) (backD ρ ρ5 vs) qf ⟨⟩
    else plainC (backD ρ ρ2 vs) vs = true ∧ dcP g s tk tv vs ds acc (backD ρ ρ2 vs) qf ⟨⟩) := id rfl
@[simp ↓] theorem e_sLock : sLock i u E ρ = (match ρ[i]? with
  | some (some (.val (.dict es))) => ∀ a, u (lockE ρ a (.dict es) i E) (ρ.set i (some (.lck a (.dict es))))
  | some (some (.own _ (.dict es))) => ∀ a, u (lockE (ρ.set i (some (.val (.dict es)))) a (.dict es) i E) (ρ.set i (some (.lck a (.dict es))))
  | some (some (.lck _ _)) => u E ρ
  | _ => False) := id rfl
@[simp] theorem e_lockNx {ρ' : DEnv} : (lockE ρ a d i E).nx ρ' = unl ρ a d i ρ' E.nx := id rfl
@[simp] theorem e_lockRt {ρ' : DEnv} {x : PyData} : (lockE ρ a d i E).rt x ρ' = unl ρ a d i ρ' (E.rt x) := id rfl
@[simp] theorem e_lockBk {ρ' : DEnv} : (lockE ρ a d i E).bk ρ' = unl ρ a d i ρ' E.bk := id rfl
@[simp] theorem e_lockCt {ρ' : DEnv} : (lockE ρ a d i E).ct ρ' = unl ρ a d i ρ' E.ct := id rfl
@[simp ↓] theorem e_unl {ρ' : DEnv} {k : DEnv → Prop} : unl ρ a d i ρ' k = (ρ'[i]? = some (some (.lck a d)) ∧ lckS ρ (ρ'.set i none) ∧ k (ρ'.set i (some (.val d)))) := id rfl
@[simp] theorem e_lckS0 : lckS ρ [] = True := by cases ρ <;> exact id rfl
@[simp] theorem e_lckS1 {c : Option Cell} {r : DEnv} : lckS ρ (c :: r) = ((match c with
    | some (.lck a d) => ρ.head? = some (some (.lck a d))
    | _ => True) ∧ lckS ρ.tail r) := id rfl
@[simp ↓] theorem e_iKeysD : iKeysD i ρ qi = (match ρ[i]? with
  | some (some (.lck _ (.dict es))) => qi (keysOf (.dict es)) ρ
  | _ => False) := id rfl
@[simp ↓] theorem e_iItemsD : iItemsD i ρ qi = (match ρ[i]? with
  | some (some (.lck _ (.dict es))) => kDict es = true ∧ qi (itemsOf (.dict es)) ρ
  | _ => False) := id rfl
@[simp ↓] theorem e_sTSetd : sTSetd i tk tv E ρ = (match ρ[i]? with
  | some (some (.own _ (.dict ((.none, .none) :: _)))) => tk ρ fun ok ρ1 => tv ρ1 fun ov ρ2 => ok.rd ρ2 fun e => ov.tk ρ2 fun d ρ3 => (match ρ3[i]? with
    | some (some (.own a (.dict ((.none, .none) :: es)))) => isKeyT e = true ∧ es.length < 16777216 ∧ E.nx (ρ3.set i (some (.own a (.dict ((.none, .none) :: if (dGetT es e).isSome = true then es else dPutT es e d)))))
    | _ => False)
  | _ => False) := id rfl
@[simp ↓] theorem e_dCallS : dCallS n F ta ρ q = (ta ρ fun o ρ1 => o.tk ρ1 fun d ρ2 => optP (seq2D d) (fun ds => ds.length = n ∧ callP F ds (fun r _ => q (.vl r) ρ2) ⟨⟩) ⟨⟩) := id rfl
@[simp ↓] theorem e_gLenD {es : List (PyData × PyData)} : gLenD (.dict es) qd = qd (.int (dictN es : Nat)) := id rfl
@[simp] theorem e_wipe0 : wipeD ρ [] = ρ := id rfl
@[simp] theorem e_wipe1 {vs : List Nat} : wipeD ρ (i :: vs) = wipeD (ρ.set i none) vs := id rfl
@[simp] theorem e_back0 {ρ0 : DEnv} : backD ρ0 ρ [] = ρ := id rfl
@[simp] theorem e_back1 {ρ0 : DEnv} {vs : List Nat} : backD ρ0 ρ (i :: vs) = backD ρ0 (ρ.set i (ρ0.getD i none)) vs := id rfl
@[simp] theorem e_plainC0 : plainC ρ [] = true := id rfl
@[simp] theorem e_plainC1 {vs : List Nat} : plainC ρ (i :: vs) = (plain1 ρ i && plainC ρ vs) := id rfl
@[simp] theorem e_plain1 : plain1 ρ i = (match ρ[i]? with
  | some (some (.own _ _)) => false
  | some (some (.deep _ _)) => false
  | some (some (.lck _ _)) => false
  | some (some (.grid _ _ _)) => false
  | _ => true) := id rfl
@[simp ↓] theorem e_dYes : dYes ρ qb = qb true ρ := id rfl
@[simp ↓] theorem e_sAppend : sAppend i ta E ρ = (match ρ[i]? with
  | some (some (.own _ (.list _))) => ta ρ fun o ρ1 => o.tk ρ1 fun d ρ2 => (match ρ2[i]? with
    | some (some (.own a (.list ds))) => ds.length < 16777216 ∧ E.nx (ρ2.set i (some (.own a (.list (ds ++ [d])))))
    | _ => False)
  | _ => False) := id rfl
@[simp ↓] theorem e_sExtend : sExtend i ta E ρ = (match ρ[i]? with
  | some (some (.own _ (.list _))) => ta ρ fun o ρ1 => o.tk ρ1 fun d ρ2 => (match d with
    | .list es => (match ρ2[i]? with
      | some (some (.own a (.list ds))) => ds.length + es.length ≤ 16777216 ∧ E.nx (ρ2.set i (some (.own a (.list (ds ++ es)))))
      | _ => False)
    | _ => False)
  | _ => False) := id rfl
@[simp ↓] theorem e_sSetIx : sSetIx i ta tb E ρ = (tb ρ fun o ρ1 => o.tk ρ1 fun d ρ2 => match ρ2[i]? with
  | some (some (.own _ _)) => ta ρ2 fun oi ρ3 => oi.rd ρ3 fun di => (match di with
    | .int n => (match ρ3[i]? with
      | some (some (.own a (.list ds))) => optP (ixN ds.length n) (fun j => E.nx (ρ3.set i (some (.own a (.list (ds.set j d)))))) ⟨⟩
      | _ => False)
    | _ => False)
  | _ => False) := id rfl
@[simp ↓] theorem e_dPop : dPop i ρ q = (match ρ[i]? with
  | some (some (.own a (.list ds))) => optP ds[ds.length - 1]? (fun d => q (.vl d) (ρ.set i (some (.own a (.list ds.dropLast))))) ⟨⟩
  | _ => False) := id rfl
@[simp ↓] theorem e_afNil {q : List FV → DEnv → Prop} : afNil ρ q = q [] ρ := id rfl
@[simp ↓] theorem e_afV {tr : DTAF} {q : List FV → DEnv → Prop} : afV ta tr ρ q = (ta ρ fun o ρ1 => o.tk ρ1 fun d ρ2 => tr ρ2 fun fs ρ3 => q (.vl d :: fs) ρ3) := id rfl
@[simp ↓] theorem e_afF {tr : DTAF} {q : List FV → DEnv → Prop} : afF tf tr ρ q = (tf ρ fun d ρ1 => tr ρ1 fun fs ρ2 => q (.fr d :: fs) ρ2) := id rfl
@[simp ↓] theorem e_putV : (FV.vl d).put i ρ qn = qn (ρ.set i (some (.val d))) := id rfl
@[simp ↓] theorem e_putF : (FV.fr d).put i ρ qn = ∀ p, qn (ρ.set i (some (.own p d))) := id rfl
@[simp ↓] theorem e_sPar {t : DTAF} : sPar i j t E ρ = (t ρ fun fs ρ1 => match fs with
  | [f, g] => f.put i ρ1 fun ρ2 => g.put j ρ2 E.nx
  | _ => False) := id rfl
@[simp ↓] theorem e_sPar3 {t : DTAF} : sPar3 i j l t E ρ = (t ρ fun fs ρ1 => match fs with
  | [f, g, h] => f.put i ρ1 fun ρ2 => g.put j ρ2 fun ρ3 => h.put l ρ3 E.nx
  | _ => False) := id rfl
@[simp ↓] theorem e_gDGet {es : List (PyData × PyData)} : gDGet (.dict es) e qd = (kDict es = true ∧ isKey e = true ∧ optP (dGetD es e) qd ⟨⟩) := id rfl
@[simp ↓] theorem e_gDIn {es : List (PyData × PyData)} : gDIn f e (.dict es) qd = (kDict es = true ∧ isKey e = true ∧ qd (.bool (f (dGetD es e).isSome))) := id rfl
@[simp ↓] theorem e_gTGet {es : List (PyData × PyData)} : gTGet (.dict ((.none, .none) :: es)) e qd = (isKeyT e = true ∧ optP (dGetT es e) qd ⟨⟩) := id rfl
@[simp ↓] theorem e_gTIn {es : List (PyData × PyData)} : gTIn f e (.dict ((.none, .none) :: es)) qd = (isKeyT e = true ∧ qd (.bool (f (dGetT es e).isSome))) := id rfl
@[simp ↓] theorem e_sDPut : sDPut i tk tv E ρ = (tv ρ fun o ρ1 => o.tk ρ1 fun d ρ2 => match ρ2[i]? with
  | some (some (.own _ _)) => tk ρ2 fun ok ρ3 => ok.rd ρ3 fun e => (match ρ3[i]? with
    | some (some (.own a (.dict es))) => kDict es = true ∧ isKey e = true ∧ es.length < 16777216 ∧ E.nx (ρ3.set i (some (.own a (.dict (dPutD es e d)))))
    | _ => False)
  | _ => False) := id rfl
@[simp ↓] theorem e_sTPut : sTPut i tk tv E ρ = (tv ρ fun o ρ1 => o.tk ρ1 fun d ρ2 => match ρ2[i]? with
  | some (some (.own _ _)) => tk ρ2 fun ok ρ3 => ok.rd ρ3 fun e => (match ρ3[i]? with
    | some (some (.own a (.dict ((.none, .none) :: es)))) => isKeyT e = true ∧ es.length < 16777216 ∧ E.nx (ρ3.set i (some (.own a (.dict ((.none, .none) :: dPutT es e d)))))
    | _ => False)
  | _ => False) := id rfl
@[simp ↓] theorem e_fD0 : fD0 ρ qf = qf (.dict []) ρ := id rfl
@[simp ↓] theorem e_fT0 : fT0 ρ qf = qf (.dict [(.none, .none)]) ρ := id rfl
@[simp ↓] theorem e_fD1 : fD1 tk tv ρ qf = (tk ρ fun ok ρ1 => tv ρ1 fun ov ρ2 => ok.rd ρ2 fun e => ov.tk ρ2 fun d ρ3 => isKey e = true ∧ qf (.dict [(e, d)]) ρ3) := id rfl
@[simp ↓] theorem e_fT1 : fT1 tk tv ρ qf = (tk ρ fun ok ρ1 => tv ρ1 fun ov ρ2 => ok.rd ρ2 fun e => ov.tk ρ2 fun d ρ3 => isKeyT e = true ∧ qf (.dict [(.none, .none), (e, d)]) ρ3) := id rfl
@[simp ↓] theorem e_iR1 : iR1 t ρ qi = (t ρ fun os ρ1 => rdAll os ρ1 fun ds => match ds with
  | [.int j] => -4611686018427387904 ≤ j ∧ j < 4611686018427387904 ∧ qi ((List.range j.toNat).map fun k => .int (k : Nat)) ρ1
  | _ => False) := id rfl
@[simp ↓] theorem e_iR2 : iR2 t ρ qi = (t ρ fun os ρ1 => rdAll os ρ1 fun ds => match ds with
  | [.int i, .int j] => (-4611686018427387904 ≤ i ∧ i < 4611686018427387904 ∧ -4611686018427387904 ≤ j ∧ j < 4611686018427387904) ∧ qi ((List.range (j - i).toNat).map fun k => .int (i + (k : Nat))) ρ1
  | _ => False) := id rfl
@[simp ↓] theorem e_iEnum : iEnumD ta ρ qi = (ta ρ fun o ρ1 => o.tk ρ1 fun d ρ2 => match d with
  | .list ds => qi ((List.range ds.length).zipWith (fun k d => .tuple [.int (k : Nat), d]) ds) ρ2
  | _ => False) := id rfl
@[simp ↓] theorem e_sSetN : sSetN i n F t E ρ = (t ρ fun os ρ1 => os.length = n ∧ rdAllX os ρ1 fun ds => callP F ds (fun d _ => Apart ds d ∧ putN i d ρ1 E.nx) ⟨⟩) := id rfl
@[simp ↓] theorem e_sSetCopy {m : Nat} : sSetCopy i m ta E ρ = (ta ρ fun o ρ1 => o.rdx ρ1 fun d => cpyD m d = true ∧ putN i d ρ1 E.nx) := id rfl
@[simp ↓] theorem e_dIsi {T : String} : dIsi T ta ρ q = (ta ρ fun o ρ1 => o.rdx ρ1 fun d => noDict d = true ∧ q (.vl (.bool (tyD d == T))) ρ1) := id rfl
@[simp ↓] theorem e_fListOf : fListOf ta ρ qf = (ta ρ fun o ρ1 => o.rd ρ1 fun d => match d with
  | .list ds => qf (.list ds) ρ1
  | .tuple ds => qf (.list ds) ρ1
  | _ => False) := id rfl
@[simp ↓] theorem e_fLstRev : fLstRev ta ρ qf = (ta ρ fun o ρ1 => o.rd ρ1 fun d => match d with
  | .list ds => qf (.list ds.reverse) ρ1
  | _ => False) := id rfl
@[simp ↓] theorem e_sDeepRev : sDeepRev i j E ρ = (match ρ[i]? with
  | some (some (.deep P (.tuple ds))) => ∃ l, ds[j]? = some (.list l) ∧ flats l = true ∧ flats (ds.set j .none) = true ∧ E.nx (ρ.set i (some (.deep P (.tuple (ds.set j (.list l.reverse))))))
  | _ => False) := id rfl
@[simp ↓] theorem e_iZ2 : iZ2 t ρ qi = (t ρ fun os ρ1 => tkAll os ρ1 fun ds ρ2 => match ds with
  | [x, y] => ∃ xs ys, seqD x = some xs ∧ seqD y = some ys ∧ qi (zip2D xs ys) ρ2
  | _ => False) := id rfl
@[simp ↓] theorem e_fGr {vs : List Nat} {qg : List (List PyData) → DEnv → Prop} : fGr ti g tf vs ρ qg = (ti ρ fun ds ρ1 => plainC ρ1 vs = true ∧ grP g tf vs ds [] ρ1 qg ⟨⟩) := id rfl
@[simp ↓] theorem e_afG {tg : DTGr} {tr : DTAF} {q : List FV → DEnv → Prop} : afG tg tr ρ q = (tg ρ fun dss ρ1 => tr ρ1 fun fs ρ2 => q (.gd dss :: fs) ρ2) := id rfl
@[simp ↓] theorem e_putG {dss : List (List PyData)} : (FV.gd dss).put i ρ qn = ∀ a as, qn (ρ.set i (some (.grid a as dss))) := id rfl
@[simp ↓] theorem e_sSetGr {tg : DTGr} : sSetGr i tg E ρ = (tg ρ fun dss ρ1 => ∀ a as, E.nx (ρ1.set i (some (.grid a as dss)))) := id rfl
@[simp ↓] theorem e_dLenG : dLenG i ρ q = (match ρ[i]? with
  | some (some (.grid _ _ dss)) => q (.vl (.int (dss.length : Nat))) ρ
  | _ => False) := id rfl
@[simp ↓] theorem e_dIxG : dIxG i ta tb ρ q = (match ρ[i]? with
  | some (some (.grid a as dss)) => ta ρ fun oa ρ1 => oa.rd ρ1 fun da => (match da with
    | .int n => ρ1[i]? = some (some (.grid a as dss)) ∧ optP (atI dss n) (fun l => tb ρ1 fun ob ρ2 => ob.rd ρ2 fun db => (match db with
      | .int m => ρ2[i]? = some (some (.grid a as dss)) ∧ optP (atI l m) (fun r => q (.vl r) ρ2) ⟨⟩
      | _ => False)) ⟨⟩
    | _ => False)
  | _ => False) := id rfl
@[simp ↓] theorem e_sSetIxG {t1 t2 : DT} : sSetIxG i t1 t2 ta E ρ = (ta ρ fun o ρ1 => o.tk ρ1 fun d ρ2 => match ρ2[i]? with
  | some (some (.grid a as dss)) => t1 ρ2 fun o1 ρ3 => o1.rd ρ3 fun d1 => (match d1 with
    | .int n => ρ3[i]? = some (some (.grid a as dss)) ∧ ∃ j l, ixN dss.length n = some j ∧ dss[j]? = some l ∧ t2 ρ3 fun o2 ρ4 => o2.rd ρ4 fun d2 => (match d2 with
      | .int m => ρ4[i]? = some (some (.grid a as dss)) ∧ flat d = true ∧ optP (ixN l.length m) (fun k => E.nx (ρ4.set i (some (.grid a as (dss.set j (l.set k d)))))) ⟨⟩
      | _ => False)
    | _ => False)
  | _ => False) := id rfl
@[simp ↓] theorem e_startF : startD false a n ds = ds.map (fun d => some (.val d)) ++ List.replicate (n - ds.length) none := id rfl
@[simp ↓] theorem e_startT : startD true a n (d :: ds) = (some (.own a d) :: ds.map fun d => some (.val d)) ++ List.replicate (n - (ds.length + 1)) none := id rfl
@[simp ↓] theorem e_endsFn {q : PyData → PyData → Prop} : (endsD false a q).nx ρ = q .none .none := id rfl
@[simp ↓] theorem e_endsFr {q : PyData → PyData → Prop} : (endsD false a q).rt d ρ = q d .none := id rfl
@[simp ↓] theorem e_endsTn {q : PyData → PyData → Prop} : (endsD true a q).nx ρ = ∃ e, ρ[0]? = some (some (.own a e)) ∧ q .none e := id rfl
@[simp ↓] theorem e_endsTr {q : PyData → PyData → Prop} : (endsD true a q).rt d ρ = ∃ e, ρ[0]? = some (some (.own a e)) ∧ q d e := id rfl
end
/-! ### roads and numbers in the readings -/
@[simp] theorem L_mk' (l : List Nat) : L (mk l) = l := id rfl
@[simp] theorem enc_len' (w : List Bool) : (enc w).length = w.length := enc_len w
@[simp] theorem enc_app' (a b : List Bool) : enc a ++ enc b = enc (a ++ b) := (enc_app a b).symm
@[simp] theorem mk_L76 : mk [76] = mk (enc [false]) := id rfl
@[simp] theorem mk_R82 : mk [82] = mk (enc [true]) := id rfl
@[simp] theorem mk_nil : mk [] = mk (enc []) := id rfl
@[simp] theorem S_L76 : S [76] = Wd [false] := id rfl
@[simp] theorem S_R82 : S [82] = Wd [true] := id rfl
@[simp] theorem S_nil : S [] = Wd [] := id rfl
@[simp] theorem shaped_w (w : List Bool) : SeqAt.shaped (.str (mk (enc w))) = true := shaped_Wd w
@[simp] theorem shaped_i (i : Int) : SeqAt.shaped (.int i) = true := shaped_int i
@[simp] theorem eqv_i (a b : Int) : PyData.eqv (.int a) (.int b) = decide (a = b) := eqv_int a b
@[simp] theorem eqv_w (a b : List Bool) : PyData.eqv (.str (mk (enc a))) (.str (mk (enc b))) = decide (a = b) := eqv_Wd a b
@[simp] theorem mk_enc_inj (a b : List Bool) : mk (enc a) = mk (enc b) ↔ a = b := ⟨fun h => enc_inj (mk_inj h), fun h => by rw [h]⟩
@[simp] theorem atI_n {α : Type} (l : List α) (k : Nat) : atI l (k : Int) = l[k]? := by
  cases h : l[k]? with
  | some r => exact atI_nat h
  | none =>
    have hl := List.getElem?_eq_none_iff.mp h
    cases h2 : ixN l.length (k : Int) with
    | none => unfold atI; rw [h2]; rfl
    | some j =>
      unfold ixN at h2
      rw [if_pos (by omega), if_neg (by omega)] at h2
      cases h2
@[simp] theorem atI_0 {α : Type} (l : List α) : atI l 0 = l[0]? := atI_n l 0
@[simp] theorem atI_1 {α : Type} (l : List α) : atI l 1 = l[1]? := atI_n l 1
@[simp] theorem atI_2 {α : Type} (l : List α) : atI l 2 = l[2]? := atI_n l 2
@[simp] theorem atI_3 {α : Type} (l : List α) : atI l 3 = l[3]? := atI_n l 3
@[simp] theorem flat_i (i : Int) : flat (.int i) = true := id rfl
@[simp] theorem flat_s (x : Str) : flat (.str x) = true := id rfl
@[simp] theorem flat_b (x : Bool) : flat (.bool x) = true := id rfl
@[simp] theorem flat_n : flat .none = true := id rfl
@[simp] theorem flat_t (ds : List PyData) : flat (.tuple ds) = flats ds := id rfl
@[simp] theorem flats_0 : flats [] = true := id rfl
@[simp] theorem flats_1 (d : PyData) (ds : List PyData) : flats (d :: ds) = (flat d && flats ds) := id rfl
@[simp] theorem joinW (ws : List (List Bool)) : Txt.join (mk (enc [])) (ws.map fun w => mk (enc w)) = mk (enc ws.flatten) := join_none ws
@[simp] theorem cast_eq' (a b : Nat) : ((a : Int) = (b : Int)) ↔ a = b := by omega
theorem strsW (ws : List (List Bool)) : strsOf (ws.map Wd) = some (ws.map fun w => mk (enc w)) := by
  induction ws with
  | nil => rfl
  | cons w ws ih =>
    simp only [List.map_cons]
    unfold strsOf
    rw [ih]
    rfl
theorem sumW (ws : List (List Bool)) : ((ws.map fun w => mk (enc w)).map (·.length)).sum = ws.flatten.length := by
  induction ws with
  | nil => rfl
  | cons w ws ih =>
    rw [List.map_cons, List.map_cons, List.sum_cons, ih, List.flatten_cons, List.length_append]
    congr 1
    show (enc w).toArray.size = _
    simp
theorem joinE (ws : List (List Bool)) (q : PyData → Prop) : gJoin (.str (mk [])) (.list (ws.map Wd)) q = (ws.flatten.length ≤ 16777216 ∧ q (Wd ws.flatten)) := by
  show (∃ ys, strsOf (ws.map Wd) = some ys ∧ (ys.map (·.length)).sum + ys.length * (mk []).length ≤ 16777216 ∧ q (.str (Txt.join (mk []) ys))) = _
  have e : ∀ ys : List Str, (ys.map (·.length)).sum + ys.length * (mk []).length = (ys.map (·.length)).sum := fun ys => by
    show (ys.map (·.length)).sum + ys.length * 0 = _
    omega
  refine propext ⟨fun ⟨ys, h1, h2, h3⟩ => ?_, fun ⟨h1, h2⟩ => ⟨_, strsW ws, ?_, ?_⟩⟩
  · rw [strsW] at h1
    cases h1
    rw [e, sumW] at h2
    rw [join_none] at h3
    exact ⟨h2, h3⟩
  · rw [e, sumW]
    exact h1
  · rw [join_none]
    exact h2
@[simp ↓ high] theorem e_joinE {ws : List (List Bool)} {q : PyData → Prop} : gJoin (.str (mk [])) (.list (ws.map Wd)) q = (ws.flatten.length ≤ 16777216 ∧ q (Wd ws.flatten)) := joinE ws q
@[simp ↓ high] theorem e_joinE' {ws : List (List Bool)} {q : PyData → Prop} : gJoin (.str (mk (enc []))) (.list (ws.map Wd)) q = (ws.flatten.length ≤ 16777216 ∧ q (Wd ws.flatten)) := joinE ws q
@[simp] theorem mk_len (l : List Nat) : (mk l).length = l.length := by
  show l.toArray.size = _
  simp
@[simp] theorem enc_rev (w : List Bool) : (enc w).reverse = enc w.reverse := by simp [enc]
@[simp] theorem seqD_w (w : List Bool) : seqD (.str (mk (enc w))) = some (w.map fun b => Wd [b]) := by
  show some _ = _
  congr 1
  show (L (mk (enc w))).map (fun c => S [c]) = _
  rw [L_mk']
  unfold enc
  rw [List.map_map]
  rfl
end DL
namespace DL
open PySem PySem.Spec PyProof.Rows L2
def topS (i : Nat) : Stmt := PySem.Challenge.pw_leftroads_k95_whole_tables_tell_machines.main.body.getD i (.Pass ⟨0, 0, 0, 0⟩)
theorem hu_of {k : Nat} {A : Around} (r : Room k A) : A.units + 1 < cLine := by have := r.units; omega
/-! has_turns_alone -/
abbrev s_has_turns_alone : Stmt := topS 7
theorem sc_has_turns_alone : FnScope ["word", "sign"] ["word"] (defScope s_has_turns_alone) := ⟨rfl, rfl, rfl, by decide +kernel, rfl, by decide +kernel, by decide +kernel⟩
def t_has_turns_alone : DTS := (sRet (dB1 (g1 (gAll (·.all id))) (dCons (dOfF (fLc (iAny (dN 0)) (tgN 1) dYes (d2 (gInS id) (dN 1) (dC (S [76, 82]))) [1])) dNil)))
abbrev PL_has_turns_alone (F  : DF) : Prop := ∀ (ds : List PyData) (q : PyData → PyData → Prop) (a : Addr), ds.length = 1 → F ds q → (t_has_turns_alone) (endsD false a q) (startD false a 2 ds)
theorem ok_has_turns_alone {P : Program} {w : World} {K : PySem.W.Frag} {mg : Str → Option Value} {base : Heap} {f : Addr} {fd : FuncData} {F  : DF} (Fn : FunD K "has_turns_alone" "has_turns_alone" (defArgs s_has_turns_alone) (defBody s_has_turns_alone) (defScope s_has_turns_alone) [] [] f fd) (b_all : mg "all" = none) (c_TURNS : ∃ t, mg "TURNS" = some (.str (mk [76, 82]) t))
    (pl : PL_has_turns_alone F) : FnOk P w K mg base CX0 1 f fd ["word"] (spD false 1 F) := by
  obtain ⟨t_TURNS, c_TURNS⟩ := c_TURNS
  refine okD Fn sc_has_turns_alone rfl (fun cdv A outer s H E hr => ?_) pl
  unfold t_has_turns_alone
  exact (ds_one (ds_ret (do_all rfl rfl b_all (do_f (dfr_lc (own := [("sign", 1)]) (by decide) rfl sc_has_turns_alone.nd (di_any (do_nm (pv 0))) (blkOk_by (N := ["word", "sign"]) (sc := defScope s_has_turns_alone) (by decide +kernel)) (fun _ _ _ _ _ => (dg_name sc_has_turns_alone.nd rfl (.inl rfl))) (fun _ _ _ _ _ => dts_nil) (fun _ _ _ _ _ => (do_inS (do_nm (pv 1)) (do_glo (v := .str (mk [76, 82])) rfl c_TURNS ⟨_, rfl⟩ (Sc.str _)))))))))
/-! is_move -/
abbrev s_is_move : Stmt := topS 10
theorem sc_is_move : FnScope ["move", "many", "word", "state"] ["move", "many"] (defScope s_is_move) := ⟨rfl, rfl, rfl, by decide +kernel, rfl, by decide +kernel, by decide +kernel⟩
def t_is_move (F_has_turns_alone : DF) : DTS := (sSeq (sAsg (dN 0) (tgSeq 2 (tgCons (tgN 2) (tgCons (tgN 3) tgNil)))) (sRet (dAndV (dCall 1 F_has_turns_alone (dCons (dN 2) dNil)) (dCh gLe gLt (dC (.int 0)) (dN 3) (dN 1)))))
abbrev PL_is_move (F F_has_turns_alone : DF) : Prop := ∀ (ds : List PyData) (q : PyData → PyData → Prop) (a : Addr), ds.length = 2 → F ds q → (t_is_move F_has_turns_alone) (endsD false a q) (startD false a 4 ds)
theorem ok_is_move {P : Program} {w : World} {K : PySem.W.Frag} {mg : Str → Option Value} {base : Heap} {f : Addr} {fd : FuncData} {F F_has_turns_alone : DF} (Fn : FunD K "is_move" "is_move" (defArgs s_is_move) (defBody s_is_move) (defScope s_is_move) [] [] f fd) (k_has_turns_alone : Know P w K mg base "has_turns_alone" 1 ["word"] false 1 F_has_turns_alone)
    (pl : PL_is_move F F_has_turns_alone) : FnOk P w K mg base CX0 2 f fd ["move", "many"] (spD false 2 F) := by
  obtain ⟨f_has_turns_alone, fd_has_turns_alone, m_has_turns_alone, kp_has_turns_alone, bd_has_turns_alone, G_has_turns_alone⟩ := k_has_turns_alone.ex
  refine okD Fn sc_is_move rfl (fun cdv A outer s H E hr => ?_) pl
  unfold t_is_move
  exact (ds_cons (ds_asg (do_nm (pv 0)) (dg_seq (n := 2) rfl (dgs_cons (dg_name sc_is_move.nd rfl (.inl rfl)) (dgs_cons (dg_name sc_is_move.nd rfl (.inl rfl)) dgs_nil)))) (ds_one (ds_ret (do_and (do_call G_has_turns_alone (hr.mono (by decide)) rfl m_has_turns_alone kp_has_turns_alone bd_has_turns_alone (da_cons (do_nm (pv 2)) da_nil)) (do_one (do_chain op_le op_lt fit_rB0 fit_rB0 do_int (do_nm (pv 3)) (do_nm (pv 1))))))))
/-! check_machine -/
abbrev s_check_machine : Stmt := topS 11
theorem sc_check_machine : FnScope ["machine", "many", "first", "rows", "left", "right", "end"] ["machine"] (defScope s_check_machine) := ⟨rfl, rfl, rfl, by decide +kernel, rfl, by decide +kernel, by decide +kernel⟩
def t_check_machine (F_has_turns_alone F_is_move : DF) : DTS := (sSeq (sAsg (dN 0) (tgSeq 2 (tgCons (tgN 2) (tgCons (tgN 3) tgNil)))) (sSeq (sSet 1 (dB1 (g1 gLen) (dCons (dN 3) dNil))) (sSeq (sIf (dOr (dB (d2x (gEq id) (dN 1) (dC (.int 0)))) (dNot (dB (dCall 1 F_has_turns_alone (dCons (dN 2) dNil))))) sNever sNext) (sFor (iAny (dN 3)) (tgSeq 3 (tgCons (tgN 4) (tgCons (tgN 5) (tgCons (tgN 6) tgNil)))) (sIf (dOr (dNot (dB (dCall 2 F_is_move (dCons (dN 4) (dCons (dN 1) dNil))))) (dOr (dNot (dB (dCall 2 F_is_move (dCons (dN 5) (dCons (dN 1) dNil))))) (dNot (dB (dCall 1 F_has_turns_alone (dCons (dN 6) dNil)))))) sNever sNext)))))
abbrev PL_check_machine (F F_has_turns_alone F_is_move : DF) : Prop := ∀ (ds : List PyData) (q : PyData → PyData → Prop) (a : Addr), ds.length = 1 → F ds q → (t_check_machine F_has_turns_alone F_is_move) (endsD false a q) (startD false a 7 ds)
theorem ok_check_machine {P : Program} {w : World} {K : PySem.W.Frag} {mg : Str → Option Value} {base : Heap} {f : Addr} {fd : FuncData} {F F_has_turns_alone F_is_move : DF} (Fn : FunD K "check_machine" "check_machine" (defArgs s_check_machine) (defBody s_check_machine) (defScope s_check_machine) [] [] f fd) (k_has_turns_alone : Know P w K mg base "has_turns_alone" 1 ["word"] false 1 F_has_turns_alone) (k_is_move : Know P w K mg base "is_move" 2 ["move", "many"] false 2 F_is_move) (b_len : mg "len" = none)
    (pl : PL_check_machine F F_has_turns_alone F_is_move) : FnOk P w K mg base CX0 3 f fd ["machine"] (spD false 1 F) := by
  obtain ⟨f_has_turns_alone, fd_has_turns_alone, m_has_turns_alone, kp_has_turns_alone, bd_has_turns_alone, G_has_turns_alone⟩ := k_has_turns_alone.ex
  obtain ⟨f_is_move, fd_is_move, m_is_move, kp_is_move, bd_is_move, G_is_move⟩ := k_is_move.ex
  refine okD Fn sc_check_machine rfl (fun cdv A outer s H E hr => ?_) pl
  unfold t_check_machine
  exact (ds_cons (ds_asg (do_nm (pv 0)) (dg_seq (n := 2) rfl (dgs_cons (dg_name sc_check_machine.nd rfl (.inl rfl)) (dgs_cons (dg_name sc_check_machine.nd rfl (.inl rfl)) dgs_nil)))) (ds_cons (ds_set sc_check_machine.nd rfl (.inl rfl) (do_len rfl b_len (do_nm (pv 3)))) (ds_cons (ds_if (dp_w (dw_or (dp_eq hr.units (do_nm (pv 1)) do_int) (dw_or1 (dp_not (dp_val (do_call G_has_turns_alone (hr.mono (by decide)) rfl m_has_turns_alone kp_has_turns_alone bd_has_turns_alone (da_cons (do_nm (pv 2)) da_nil))))))) (ds_one ds_never) ds_nil) (ds_one (ds_for .never rfl (di_any (do_nm (pv 3))) (dg_seq (n := 3) rfl (dgs_cons (dg_name sc_check_machine.nd rfl (.inl rfl)) (dgs_cons (dg_name sc_check_machine.nd rfl (.inl rfl)) (dgs_cons (dg_name sc_check_machine.nd rfl (.inl rfl)) dgs_nil)))) (ds_one (ds_if (dp_w (dw_or (dp_not (dp_val (do_call G_is_move (hr.mono (by decide)) rfl m_is_move kp_is_move bd_is_move (da_cons (do_nm (pv 4)) (da_cons (do_nm (pv 1)) da_nil))))) (dw_or (dp_not (dp_val (do_call G_is_move (hr.mono (by decide)) rfl m_is_move kp_is_move bd_is_move (da_cons (do_nm (pv 5)) (da_cons (do_nm (pv 1)) da_nil))))) (dw_or1 (dp_not (dp_val (do_call G_has_turns_alone (hr.mono (by decide)) rfl m_has_turns_alone kp_has_turns_alone bd_has_turns_alone (da_cons (do_nm (pv 6)) da_nil)))))))) (ds_one ds_never) ds_nil)))))))
/-! states_come_to -/
abbrev s_states_come_to : Stmt := topS 14
theorem sc_states_come_to : FnScope ["rows", "at", "found", "seen", "word", "goal"] ["rows"] (defScope s_states_come_to) := ⟨rfl, rfl, rfl, by decide +kernel, rfl, by decide +kernel, by decide +kernel⟩
def t_states_come_to : DTS := (sSeq (sPar 2 3 (afF (fLst (dCons (dC (.int 0)) dNil)) (afF (fD1 (dC (.int 0)) (dC (.bool true))) afNil))) (sSeq (sSet 1 (dC (.int 0))) (sSeq (sWhile (dB (d2 gLt (dN 1) (dB1 (g1 gLen) (dCons (dN 2) dNil)))) (sSeq (sFor (iAny (dSl (d2 gIx (dN 0) (d2 gIx (dN 2) (dN 1))) dNoP (dPt (dC (.int 2))))) (tgSeq 2 (tgCons (tgN 4) (tgCons (tgN 5) tgNil))) (sIf (dB (d2 (gDIn (!·)) (dN 5) (dN 3))) (sSeq (sDPut 3 (dN 5) (dC (.bool true))) (sAppend 2 (dN 5))) sNext)) (sAug 1 gAdd (dC (.int 1))))) (sRet (dN 2)))))
abbrev PL_states_come_to (F  : DF) : Prop := ∀ (ds : List PyData) (q : PyData → PyData → Prop) (a : Addr), ds.length = 1 → F ds q → (t_states_come_to) (endsD false a q) (startD false a 6 ds)
theorem ok_states_come_to {P : Program} {w : World} {K : PySem.W.Frag} {mg : Str → Option Value} {base : Heap} {f : Addr} {fd : FuncData} {F  : DF} (Fn : FunD K "states_come_to" "states_come_to" (defArgs s_states_come_to) (defBody s_states_come_to) (defScope s_states_come_to) [] [] f fd) (b_len : mg "len" = none)
    (pl : PL_states_come_to F) : FnOk P w K mg base CX0 1 f fd ["rows"] (spD false 1 F) := by
  refine okD Fn sc_states_come_to rfl (fun cdv A outer s H E hr => ?_) pl
  unfold t_states_come_to
  exact (ds_cons (ds_par rfl sc_states_come_to.nd rfl rfl (by decide) rfl rfl (daf_f (dfr_lst (da_cons do_int da_nil)) (daf_f (dfr_d1 do_int do_bl) daf_nil)) rfl) (ds_cons (ds_set sc_states_come_to.nd rfl (.inl rfl) do_int) (ds_cons (ds_while .never (dp_lt (do_nm (pv 1)) (do_len rfl b_len (do_nm (pv 2)))) (ds_cons (ds_for .never rfl (di_any (do_sl (do_ix (do_nm (pv 0)) (do_ix (do_nm (pv 2)) (do_nm (pv 1)) (fun _ _ => rfl)) (fun _ _ => rfl)) dpo_none (dpo_some do_int))) (dg_seq (n := 2) rfl (dgs_cons (dg_name sc_states_come_to.nd rfl (.inl rfl)) (dgs_cons (dg_name sc_states_come_to.nd rfl (.inl rfl)) dgs_nil))) (ds_one (ds_if (dp_dnotin (hu_of hr) (do_nm (pv 5)) (do_nm (pv 3))) (ds_cons (ds_dput (hu_of hr) (pv 3) (do_nm (pv 5)) do_bl) (ds_one (ds_append (pv 2) (do_nm (pv 5))))) ds_nil))) (ds_one (ds_augAdd sc_states_come_to.nd rfl (.inl rfl) do_int)))) (ds_one (ds_ret (do_nm (pv 2)))))))
/-! shared_start -/
abbrev s_shared_start : Stmt := topS 13
theorem sc_shared_start : FnScope ["one", "other", "many", "left", "right"] ["one", "other"] (defScope s_shared_start) := ⟨rfl, rfl, rfl, by decide +kernel, rfl, by decide +kernel, by decide +kernel⟩
def t_shared_start : DTS := (sSeq (sSet 2 (dC (.int 0))) (sSeq (sFor (iZ2 (dCons (dN 0) (dCons (dN 1) dNil))) (tgSeq 2 (tgCons (tgN 3) (tgCons (tgN 4) tgNil))) (sSeq (sIf (dB (d2x (gEq (!·)) (dN 3) (dN 4))) sBreak sNext) (sAug 2 gAdd (dC (.int 1))))) (sRet (dSl (dN 0) dNoP (dPt (dN 2))))))
abbrev PL_shared_start (F  : DF) : Prop := ∀ (ds : List PyData) (q : PyData → PyData → Prop) (a : Addr), ds.length = 2 → F ds q → (t_shared_start) (endsD false a q) (startD false a 5 ds)
theorem ok_shared_start {P : Program} {w : World} {K : PySem.W.Frag} {mg : Str → Option Value} {base : Heap} {f : Addr} {fd : FuncData} {F  : DF} (Fn : FunD K "shared_start" "shared_start" (defArgs s_shared_start) (defBody s_shared_start) (defScope s_shared_start) [] [] f fd) (b_zip : mg "zip" = none)
    (pl : PL_shared_start F) : FnOk P w K mg base CX0 1 f fd ["one", "other"] (spD false 2 F) := by
  refine okD Fn sc_shared_start rfl (fun cdv A outer s H E hr => ?_) pl
  unfold t_shared_start
  exact (ds_cons (ds_set sc_shared_start.nd rfl (.inl rfl) do_int) (ds_cons (ds_for .never rfl (di_zip2 rfl b_zip (da_cons (do_nm (pv 0)) (da_cons (do_nm (pv 1)) da_nil))) (dg_seq (n := 2) rfl (dgs_cons (dg_name sc_shared_start.nd rfl (.inl rfl)) (dgs_cons (dg_name sc_shared_start.nd rfl (.inl rfl)) dgs_nil))) (ds_cons (ds_if (dp_ne hr.units (do_nm (pv 3)) (do_nm (pv 4))) (ds_one ds_break) ds_nil) (ds_one (ds_augAdd sc_shared_start.nd rfl (.inl rfl) do_int)))) (ds_one (ds_ret (do_sl (do_nm (pv 0)) dpo_none (dpo_some (do_nm (pv 2))))))))
/-! sure_words -/
abbrev s_sure_words : Stmt := topS 15
theorem sc_sure_words : FnScope ["rows", "states", "sure", "changed", "state", "here", "word", "goal"] ["rows", "states"] (defScope s_sure_words) := ⟨rfl, rfl, rfl, by decide +kernel, rfl, by decide +kernel, by decide +kernel⟩
def t_sure_words (F_shared_start : DF) : DTS := (sSeq (sSetF 2 (fDc (iAny (dN 1)) (tgN 4) dYes (dN 4) (d2 gIx (d2 gIx (dN 0) (dN 4)) (dC (.int 2))) [4])) (sSeq (sSet 3 (dC (.bool true))) (sSeq (sWhile (dB (dN 3)) (sSeq (sSet 3 (dC (.bool false))) (sFor (iAny (dN 1)) (tgN 4) (sSeq (sSet 5 (d2 gDGet (dN 2) (dN 4))) (sSeq (sFor (iAny (dSl (d2 gIx (dN 0) (dN 4)) dNoP (dPt (dC (.int 2))))) (tgSeq 2 (tgCons (tgN 6) (tgCons (tgN 7) tgNil))) (sSet 5 (dCall 2 F_shared_start (dCons (dN 5) (dCons (d2 gAdd (dN 6) (d2 gDGet (dN 2) (dN 7))) dNil))))) (sIf (dB (d2x (gEq (!·)) (dN 5) (d2 gDGet (dN 2) (dN 4)))) (sSeq (sDPut 2 (dN 4) (dN 5)) (sSet 3 (dC (.bool true)))) sNext)))))) (sRet (dN 2)))))
abbrev PL_sure_words (F F_shared_start : DF) : Prop := ∀ (ds : List PyData) (q : PyData → PyData → Prop) (a : Addr), ds.length = 2 → F ds q → (t_sure_words F_shared_start) (endsD false a q) (startD false a 8 ds)
theorem ok_sure_words {P : Program} {w : World} {K : PySem.W.Frag} {mg : Str → Option Value} {base : Heap} {f : Addr} {fd : FuncData} {F F_shared_start : DF} (Fn : FunD K "sure_words" "sure_words" (defArgs s_sure_words) (defBody s_sure_words) (defScope s_sure_words) [] [] f fd) (k_shared_start : Know P w K mg base "shared_start" 1 ["one", "other"] false 2 F_shared_start)
    (pl : PL_sure_words F F_shared_start) : FnOk P w K mg base CX0 2 f fd ["rows", "states"] (spD false 2 F) := by
  obtain ⟨f_shared_start, fd_shared_start, m_shared_start, kp_shared_start, bd_shared_start, G_shared_start⟩ := k_shared_start.ex
  refine okD Fn sc_sure_words rfl (fun cdv A outer s H E hr => ?_) pl
  unfold t_sure_words
  exact (ds_cons (ds_setDc (own := [("state", 4)]) (by decide) rfl sc_sure_words.nd rfl rfl rfl (di_any (do_nm (pv 1))) (blkOk_by (N := ["rows", "states", "sure", "changed", "state", "here", "word", "goal"]) (sc := defScope s_sure_words) (by decide +kernel)) (fun _ _ _ _ _ => (dg_name sc_sure_words.nd rfl (.inl rfl))) (fun _ _ _ _ _ => dts_nil) (fun _ _ _ _ _ => (do_nm (pv 4))) (fun _ _ _ _ _ => (do_ix (do_ix (do_nm (pv 0)) (do_nm (pv 4)) (fun _ _ => rfl)) do_int (fun _ _ => rfl)))) (ds_cons (ds_set sc_sure_words.nd rfl (.inl rfl) do_bl) (ds_cons (ds_while .never (dp_val (do_nm (pv 3))) (ds_cons (ds_set sc_sure_words.nd rfl (.inl rfl) do_bl) (ds_one (ds_for .never rfl (di_any (do_nm (pv 1))) (dg_name sc_sure_words.nd rfl (.inl rfl)) (ds_cons (ds_set sc_sure_words.nd rfl (.inl rfl) (do_dget (hu_of hr) (do_nm (pv 2)) (do_nm (pv 4)) (fun _ _ => rfl))) (ds_cons (ds_for .never rfl (di_any (do_sl (do_ix (do_nm (pv 0)) (do_nm (pv 4)) (fun _ _ => rfl)) dpo_none (dpo_some do_int))) (dg_seq (n := 2) rfl (dgs_cons (dg_name sc_sure_words.nd rfl (.inl rfl)) (dgs_cons (dg_name sc_sure_words.nd rfl (.inl rfl)) dgs_nil))) (ds_one (ds_set sc_sure_words.nd rfl (.inl rfl) (do_call G_shared_start (hr.mono (by decide)) rfl m_shared_start kp_shared_start bd_shared_start (da_cons (do_nm (pv 5)) (da_cons (do_add (do_nm (pv 6)) (do_dget (hu_of hr) (do_nm (pv 2)) (do_nm (pv 7)) (fun _ _ => rfl))) da_nil)))))) (ds_one (ds_if (dp_ne hr.units (do_nm (pv 5)) (do_dget (hu_of hr) (do_nm (pv 2)) (do_nm (pv 4)) (fun _ _ => rfl))) (ds_cons (ds_dput (hu_of hr) (pv 2) (do_nm (pv 4)) (do_nm (pv 5))) (ds_one (ds_set sc_sure_words.nd rfl (.inl rfl) do_bl))) ds_nil)))))))) (ds_one (ds_ret (do_nm (pv 2)))))))
/-! numbered_rows -/
abbrev s_numbered_rows : Stmt := topS 17
theorem sc_numbered_rows : FnScope ["rows", "classes", "numbers", "found", "lines", "moves", "left", "right", "end", "word", "goal"] ["rows", "classes"] (defScope s_numbered_rows) := ⟨rfl, rfl, rfl, by decide +kernel, rfl, by decide +kernel, by decide +kernel⟩
def t_numbered_rows : DTS := (sSeq (sPar3 2 3 4 (afF (fD1 (d2 gDGet (dN 1) (dC (.int 0))) (dC (.int 0))) (afF (fLst (dCons (dC (.int 0)) dNil)) (afF (fLst dNil) afNil)))) (sSeq (sWhile (dB (d2 gLt (dB1 (g1 gLen) (dCons (dN 4) dNil)) (dB1 (g1 gLen) (dCons (dN 3) dNil)))) (sSeq (sAsg (d2 gDGet (dN 0) (d2 gIx (dN 3) (dB1 (g1 gLen) (dCons (dN 4) dNil)))) (tgSeq 3 (tgCons (tgN 6) (tgCons (tgN 7) (tgCons (tgN 8) tgNil))))) (sSeq (sSetF 5 (fLst dNil)) (sSeq (sFor (iAny (dTup (dCons (dN 6) (dCons (dN 7) dNil)))) (tgSeq 2 (tgCons (tgN 9) (tgCons (tgN 10) tgNil))) (sSeq (sIf (dB (d2 (gDIn (!·)) (d2 gDGet (dN 1) (dN 10)) (dN 2))) (sSeq (sDPut 2 (d2 gDGet (dN 1) (dN 10)) (dB1 (g1 gLen) (dCons (dN 3) dNil))) (sAppend 3 (dN 10))) sNext) (sAppend 5 (dTup (dCons (dN 9) (dCons (d2 gDGet (dN 2) (d2 gDGet (dN 1) (dN 10))) dNil)))))) (sAppend 4 (dTup (dCons (d2 gIx (dN 5) (dC (.int 0))) (dCons (d2 gIx (dN 5) (dC (.int 1))) (dCons (dN 8) dNil))))))))) (sRet (dN 4))))
abbrev PL_numbered_rows (F  : DF) : Prop := ∀ (ds : List PyData) (q : PyData → PyData → Prop) (a : Addr), ds.length = 2 → F ds q → (t_numbered_rows) (endsD false a q) (startD false a 11 ds)
theorem ok_numbered_rows {P : Program} {w : World} {K : PySem.W.Frag} {mg : Str → Option Value} {base : Heap} {f : Addr} {fd : FuncData} {F  : DF} (Fn : FunD K "numbered_rows" "numbered_rows" (defArgs s_numbered_rows) (defBody s_numbered_rows) (defScope s_numbered_rows) [] [] f fd) (b_len : mg "len" = none)
    (pl : PL_numbered_rows F) : FnOk P w K mg base CX0 1 f fd ["rows", "classes"] (spD false 2 F) := by
  refine okD Fn sc_numbered_rows rfl (fun cdv A outer s H E hr => ?_) pl
  unfold t_numbered_rows
  exact (ds_cons (ds_par3 rfl sc_numbered_rows.nd rfl rfl rfl (by decide) (by decide) (by decide) rfl rfl rfl (daf_f (dfr_d1 (do_dget (hu_of hr) (do_nm (pv 1)) do_int (fun _ _ => rfl)) do_int) (daf_f (dfr_lst (da_cons do_int da_nil)) (daf_f (dfr_lst da_nil) daf_nil))) rfl) (ds_cons (ds_while .never (dp_lt (do_len rfl b_len (do_nm (pv 4))) (do_len rfl b_len (do_nm (pv 3)))) (ds_cons (ds_asg (do_dget (hu_of hr) (do_nm (pv 0)) (do_ix (do_nm (pv 3)) (do_len rfl b_len (do_nm (pv 4))) (fun _ _ => rfl)) (fun _ _ => rfl)) (dg_seq (n := 3) rfl (dgs_cons (dg_name sc_numbered_rows.nd rfl (.inl rfl)) (dgs_cons (dg_name sc_numbered_rows.nd rfl (.inl rfl)) (dgs_cons (dg_name sc_numbered_rows.nd rfl (.inl rfl)) dgs_nil))))) (ds_cons (ds_setF sc_numbered_rows.nd rfl (.inl rfl) (dfr_lst da_nil)) (ds_cons (ds_for .never rfl (di_any (do_tup (da_cons (do_nm (pv 6)) (da_cons (do_nm (pv 7)) da_nil)))) (dg_seq (n := 2) rfl (dgs_cons (dg_name sc_numbered_rows.nd rfl (.inl rfl)) (dgs_cons (dg_name sc_numbered_rows.nd rfl (.inl rfl)) dgs_nil))) (ds_cons (ds_if (dp_dnotin (hu_of hr) (do_dget (hu_of hr) (do_nm (pv 1)) (do_nm (pv 10)) (fun _ _ => rfl)) (do_nm (pv 2))) (ds_cons (ds_dput (hu_of hr) (pv 2) (do_dget (hu_of hr) (do_nm (pv 1)) (do_nm (pv 10)) (fun _ _ => rfl)) (do_len rfl b_len (do_nm (pv 3)))) (ds_one (ds_append (pv 3) (do_nm (pv 10))))) ds_nil) (ds_one (ds_append (pv 5) (do_tup (da_cons (do_nm (pv 9)) (da_cons (do_dget (hu_of hr) (do_nm (pv 2)) (do_dget (hu_of hr) (do_nm (pv 1)) (do_nm (pv 10)) (fun _ _ => rfl)) (fun _ _ => rfl)) da_nil))))))) (ds_one (ds_append (pv 4) (do_tup (da_cons (do_ix (do_nm (pv 5)) do_int (fun _ _ => rfl)) (da_cons (do_ix (do_nm (pv 5)) do_int (fun _ _ => rfl)) (da_cons (do_nm (pv 8)) da_nil)))))))))) (ds_one (ds_ret (do_nm (pv 4))))))
/-! class_numbers -/
abbrev s_class_numbers : Stmt := topS 16
theorem sc_class_numbers : FnScope ["rows", "states", "keys", "many", "numbers", "state", "found"] ["rows", "states"] (defScope s_class_numbers) := ⟨rfl, rfl, rfl, by decide +kernel, rfl, by decide +kernel, by decide +kernel⟩
def t_class_numbers : DTS := (sSeq (sSet 2 (dOfF (fDc (iAny (dN 1)) (tgN 5) dYes (dN 5) (dTup (dCons (d2 gIx (d2 gIx (d2 gDGet (dN 0) (dN 5)) (dC (.int 0))) (dC (.int 0))) (dCons (d2 gIx (d2 gIx (d2 gDGet (dN 0) (dN 5)) (dC (.int 1))) (dC (.int 0))) (dCons (d2 gIx (d2 gDGet (dN 0) (dN 5)) (dC (.int 2))) dNil)))) [5]))) (sSeq (sSet 3 (dC (.int 0))) (sWhile (dB (dC (.bool true))) (sSeq (sSetF 4 fT0) (sSeq (sFor (iAny (dN 1)) (tgN 5) (sTSetd 4 (d2 gDGet (dN 2) (dN 5)) (dB1 (g1 gLenD) (dCons (dN 4) dNil)))) (sSeq (sSet 6 (dOfF (fDc (iAny (dN 1)) (tgN 5) dYes (dN 5) (d2 gTGet (dN 4) (d2 gDGet (dN 2) (dN 5))) [5]))) (sSeq (sIf (dB (d2x (gEq id) (dB1 (g1 gLenD) (dCons (dN 4) dNil)) (dN 3))) (sRet (dN 6)) sNext) (sSeq (sSet 3 (dB1 (g1 gLenD) (dCons (dN 4) dNil))) (sSet 2 (dOfF (fDc (iAny (dN 1)) (tgN 5) dYes (dN 5) (dTup (dCons (d2 gDGet (dN 6) (dN 5)) (dCons (d2 gDGet (dN 6) (d2 gIx (d2 gIx (d2 gDGet (dN 0) (dN 5)) (dC (.int 0))) (dC (.int 1)))) (dCons (d2 gDGet (dN 6) (d2 gIx (d2 gIx (d2 gDGet (dN 0) (dN 5)) (dC (.int 1))) (dC (.int 1)))) dNil)))) [5])))))))))))
abbrev PL_class_numbers (F  : DF) : Prop := ∀ (ds : List PyData) (q : PyData → PyData → Prop) (a : Addr), ds.length = 2 → F ds q → (t_class_numbers) (endsD false a q) (startD false a 7 ds)
theorem ok_class_numbers {P : Program} {w : World} {K : PySem.W.Frag} {mg : Str → Option Value} {base : Heap} {f : Addr} {fd : FuncData} {F  : DF} (Fn : FunD K "class_numbers" "class_numbers" (defArgs s_class_numbers) (defBody s_class_numbers) (defScope s_class_numbers) [] [] f fd) (b_len : mg "len" = none)
    (pl : PL_class_numbers F) : FnOk P w K mg base CX0 1 f fd ["rows", "states"] (spD false 2 F) := by
  refine okD Fn sc_class_numbers rfl (fun cdv A outer s H E hr => ?_) pl
  unfold t_class_numbers
  exact (ds_cons (ds_set sc_class_numbers.nd rfl (.inr rfl) (do_f (dfr_dc (own := [("state", 5)]) (by decide) rfl sc_class_numbers.nd (di_any (do_nm (pv 1))) (blkOk_by (N := ["rows", "states", "keys", "many", "numbers", "state", "found"]) (sc := defScope s_class_numbers) (by decide +kernel)) (fun _ _ _ _ _ => (dg_name sc_class_numbers.nd rfl (.inl rfl))) (fun _ _ _ _ _ => dts_nil) (fun _ _ _ _ _ => (do_nm (pv 5))) (fun _ _ _ _ _ => (do_tup (da_cons (do_ix (do_ix (do_dget (hu_of hr) (do_nm (pv 0)) (do_nm (pv 5)) (fun _ _ => rfl)) do_int (fun _ _ => rfl)) do_int (fun _ _ => rfl)) (da_cons (do_ix (do_ix (do_dget (hu_of hr) (do_nm (pv 0)) (do_nm (pv 5)) (fun _ _ => rfl)) do_int (fun _ _ => rfl)) do_int (fun _ _ => rfl)) (da_cons (do_ix (do_dget (hu_of hr) (do_nm (pv 0)) (do_nm (pv 5)) (fun _ _ => rfl)) do_int (fun _ _ => rfl)) da_nil)))))))) (ds_cons (ds_set sc_class_numbers.nd rfl (.inl rfl) do_int) (ds_one (ds_while .never (dp_val do_bl) (ds_cons (ds_setF sc_class_numbers.nd rfl (.inr rfl) dfr_t0) (ds_cons (ds_for .never rfl (di_any (do_nm (pv 1))) (dg_name sc_class_numbers.nd rfl (.inl rfl)) (ds_one (ds_tsetd (hu_of hr) (pv 4) (do_dget (hu_of hr) (do_nm (pv 2)) (do_nm (pv 5)) (fun _ _ => rfl)) (do_lenD rfl b_len (do_nm (pv 4)))))) (ds_cons (ds_set sc_class_numbers.nd rfl (.inr rfl) (do_f (dfr_dc (own := [("state", 5)]) (by decide) rfl sc_class_numbers.nd (di_any (do_nm (pv 1))) (blkOk_by (N := ["rows", "states", "keys", "many", "numbers", "state", "found"]) (sc := defScope s_class_numbers) (by decide +kernel)) (fun _ _ _ _ _ => (dg_name sc_class_numbers.nd rfl (.inl rfl))) (fun _ _ _ _ _ => dts_nil) (fun _ _ _ _ _ => (do_nm (pv 5))) (fun _ _ _ _ _ => (do_tget (hu_of hr) (do_nm (pv 4)) (do_dget (hu_of hr) (do_nm (pv 2)) (do_nm (pv 5)) (fun _ _ => rfl)) (fun _ _ => rfl)))))) (ds_cons (ds_if (dp_eq hr.units (do_lenD rfl b_len (do_nm (pv 4))) (do_nm (pv 3))) (ds_one (ds_ret (do_nm (pv 6)))) ds_nil) (ds_cons (ds_set sc_class_numbers.nd rfl (.inl rfl) (do_lenD rfl b_len (do_nm (pv 4)))) (ds_one (ds_set sc_class_numbers.nd rfl (.inr rfl) (do_f (dfr_dc (own := [("state", 5)]) (by decide) rfl sc_class_numbers.nd (di_any (do_nm (pv 1))) (blkOk_by (N := ["rows", "states", "keys", "many", "numbers", "state", "found"]) (sc := defScope s_class_numbers) (by decide +kernel)) (fun _ _ _ _ _ => (dg_name sc_class_numbers.nd rfl (.inl rfl))) (fun _ _ _ _ _ => dts_nil) (fun _ _ _ _ _ => (do_nm (pv 5))) (fun _ _ _ _ _ => (do_tup (da_cons (do_dget (hu_of hr) (do_nm (pv 6)) (do_nm (pv 5)) (fun _ _ => rfl)) (da_cons (do_dget (hu_of hr) (do_nm (pv 6)) (do_ix (do_ix (do_dget (hu_of hr) (do_nm (pv 0)) (do_nm (pv 5)) (fun _ _ => rfl)) do_int (fun _ _ => rfl)) do_int (fun _ _ => rfl)) (fun _ _ => rfl)) (da_cons (do_dget (hu_of hr) (do_nm (pv 6)) (do_ix (do_ix (do_dget (hu_of hr) (do_nm (pv 0)) (do_nm (pv 5)) (fun _ _ => rfl)) do_int (fun _ _ => rfl)) do_int (fun _ _ => rfl)) (fun _ _ => rfl)) da_nil))))))))))))))))))
/-! least_form -/
abbrev s_least_form : Stmt := topS 18
theorem sc_least_form : FnScope ["first", "rows", "states", "sure", "earlier", "state", "many", "left", "right", "word", "goal"] ["first", "rows"] (defScope s_least_form) := ⟨rfl, rfl, rfl, by decide +kernel, rfl, by decide +kernel, by decide +kernel⟩
def t_least_form (F_states_come_to F_sure_words F_numbered_rows F_class_numbers : DF) : DTS := (sSeq (sSet 2 (dCall 1 F_states_come_to (dCons (dN 1) dNil))) (sSeq (sSet 3 (dCall 2 F_sure_words (dCons (dN 1) (dCons (dN 2) dNil)))) (sSeq (sSetF 4 fD0) (sSeq (sFor (iAny (dN 2)) (tgN 5) (sSeq (sSet 6 (dB1 (g1 gLen) (dCons (d2 gDGet (dN 3) (dN 5)) dNil))) (sSeq (sAsg (dOfF (fLc (iAny (dSl (d2 gIx (dN 1) (dN 5)) dNoP (dPt (dC (.int 2))))) (tgSeq 2 (tgCons (tgN 9) (tgCons (tgN 10) tgNil))) dYes (dTup (dCons (dSl (d2 gAdd (dN 9) (d2 gDGet (dN 3) (dN 10))) (dPt (dN 6)) dNoP) (dCons (dN 10) dNil))) [9, 10])) (tgSeq 2 (tgCons (tgN 7) (tgCons (tgN 8) tgNil)))) (sDPut 4 (dN 5) (dTup (dCons (dN 7) (dCons (dN 8) (dCons (dSl (d2 gIx (d2 gIx (dN 1) (dN 5)) (dC (.int 2))) (dPt (dN 6)) dNoP) dNil)))))))) (sRet (dTup (dCons (d2 gAdd (dN 0) (d2 gDGet (dN 3) (dC (.int 0)))) (dCons (dCallN 2 F_numbered_rows (dCons (dN 4) (dCons (dCallN 2 F_class_numbers (dCons (dN 4) (dCons (dN 2) dNil))) dNil))) dNil))))))))
abbrev PL_least_form (F F_states_come_to F_sure_words F_numbered_rows F_class_numbers : DF) : Prop := ∀ (ds : List PyData) (q : PyData → PyData → Prop) (a : Addr), ds.length = 2 → F ds q → (t_least_form F_states_come_to F_sure_words F_numbered_rows F_class_numbers) (endsD false a q) (startD false a 11 ds)
theorem ok_least_form {P : Program} {w : World} {K : PySem.W.Frag} {mg : Str → Option Value} {base : Heap} {f : Addr} {fd : FuncData} {F F_states_come_to F_sure_words F_numbered_rows F_class_numbers : DF} (Fn : FunD K "least_form" "least_form" (defArgs s_least_form) (defBody s_least_form) (defScope s_least_form) [] [] f fd) (k_states_come_to : Know P w K mg base "states_come_to" 1 ["rows"] false 1 F_states_come_to) (k_sure_words : Know P w K mg base "sure_words" 2 ["rows", "states"] false 2 F_sure_words) (k_numbered_rows : Know P w K mg base "numbered_rows" 1 ["rows", "classes"] false 2 F_numbered_rows) (k_class_numbers : Know P w K mg base "class_numbers" 1 ["rows", "states"] false 2 F_class_numbers) (b_len : mg "len" = none)
    (pl : PL_least_form F F_states_come_to F_sure_words F_numbered_rows F_class_numbers) : FnOk P w K mg base CX0 3 f fd ["first", "rows"] (spD false 2 F) := by
  obtain ⟨f_states_come_to, fd_states_come_to, m_states_come_to, kp_states_come_to, bd_states_come_to, G_states_come_to⟩ := k_states_come_to.ex
  obtain ⟨f_sure_words, fd_sure_words, m_sure_words, kp_sure_words, bd_sure_words, G_sure_words⟩ := k_sure_words.ex
  obtain ⟨f_numbered_rows, fd_numbered_rows, m_numbered_rows, kp_numbered_rows, bd_numbered_rows, G_numbered_rows⟩ := k_numbered_rows.ex
  obtain ⟨f_class_numbers, fd_class_numbers, m_class_numbers, kp_class_numbers, bd_class_numbers, G_class_numbers⟩ := k_class_numbers.ex
  refine okD Fn sc_least_form rfl (fun cdv A outer s H E hr => ?_) pl
  unfold t_least_form
  exact (ds_cons (ds_set sc_least_form.nd rfl (.inl rfl) (do_call G_states_come_to (hr.mono (by decide)) rfl m_states_come_to kp_states_come_to bd_states_come_to (da_cons (do_nm (pv 1)) da_nil))) (ds_cons (ds_set sc_least_form.nd rfl (.inr rfl) (do_call G_sure_words (hr.mono (by decide)) rfl m_sure_words kp_sure_words bd_sure_words (da_cons (do_nm (pv 1)) (da_cons (do_nm (pv 2)) da_nil)))) (ds_cons (ds_setF sc_least_form.nd rfl (.inl rfl) dfr_d0) (ds_cons (ds_for .never rfl (di_any (do_nm (pv 2))) (dg_name sc_least_form.nd rfl (.inl rfl)) (ds_cons (ds_set sc_least_form.nd rfl (.inr rfl) (do_len rfl b_len (do_dget (hu_of hr) (do_nm (pv 3)) (do_nm (pv 5)) (fun _ _ => rfl)))) (ds_cons (ds_asg (do_f (dfr_lc (own := [("word", 9), ("goal", 10)]) (by decide) rfl sc_least_form.nd (di_any (do_sl (do_ix (do_nm (pv 1)) (do_nm (pv 5)) (fun _ _ => rfl)) dpo_none (dpo_some do_int))) (blkOk_by (N := ["first", "rows", "states", "sure", "earlier", "state", "many", "left", "right", "word", "goal"]) (sc := defScope s_least_form) (by decide +kernel)) (fun _ _ _ _ _ => (dg_seq (n := 2) rfl (dgs_cons (dg_name sc_least_form.nd rfl (.inl rfl)) (dgs_cons (dg_name sc_least_form.nd rfl (.inl rfl)) dgs_nil)))) (fun _ _ _ _ _ => dts_nil) (fun _ _ _ _ _ => (do_tup (da_cons (do_sl (do_add (do_nm (pv 9)) (do_dget (hu_of hr) (do_nm (pv 3)) (do_nm (pv 10)) (fun _ _ => rfl))) (dpo_some (do_nm (pv 6))) dpo_none) (da_cons (do_nm (pv 10)) da_nil)))))) (dg_seq (n := 2) rfl (dgs_cons (dg_name sc_least_form.nd rfl (.inl rfl)) (dgs_cons (dg_name sc_least_form.nd rfl (.inl rfl)) dgs_nil)))) (ds_one (ds_dput (hu_of hr) (pv 4) (do_nm (pv 5)) (do_tup (da_cons (do_nm (pv 7)) (da_cons (do_nm (pv 8)) (da_cons (do_sl (do_ix (do_ix (do_nm (pv 1)) (do_nm (pv 5)) (fun _ _ => rfl)) do_int (fun _ _ => rfl)) (dpo_some (do_nm (pv 6))) dpo_none) da_nil))))))))) (ds_one (ds_ret (do_tup (da_cons (do_add (do_nm (pv 0)) (do_dget (hu_of hr) (do_nm (pv 3)) do_int (fun _ _ => rfl))) (da_cons (do_callN G_numbered_rows (hr.mono (by decide)) rfl m_numbered_rows kp_numbered_rows bd_numbered_rows (da_cons (do_nm (pv 4)) (da_cons (do_callN G_class_numbers (hr.mono (by decide)) rfl m_class_numbers kp_class_numbers bd_class_numbers (da_cons (do_nm (pv 4)) (da_cons (do_nm (pv 2)) da_nil))) da_nil))) da_nil)))))))))
/-! least -/
abbrev s_least : Stmt := topS 23
theorem sc_least : FnScope ["machine"] ["machine"] (defScope s_least) := ⟨rfl, rfl, rfl, by decide +kernel, rfl, by decide +kernel, by decide +kernel⟩
def t_least (F_check_machine F_least_form : DF) : DTS := (sSeq (sDrop (dCall 1 F_check_machine (dCons (dN 0) dNil))) (sRet (dCallS 2 F_least_form (dN 0))))
abbrev PL_least (F F_check_machine F_least_form : DF) : Prop := ∀ (ds : List PyData) (q : PyData → PyData → Prop) (a : Addr), ds.length = 1 → F ds q → (t_least F_check_machine F_least_form) (endsD false a q) (startD false a 1 ds)
theorem ok_least {P : Program} {w : World} {K : PySem.W.Frag} {mg : Str → Option Value} {base : Heap} {f : Addr} {fd : FuncData} {F F_check_machine F_least_form : DF} (Fn : FunD K "least" "least" (defArgs s_least) (defBody s_least) (defScope s_least) [] [] f fd) (k_check_machine : Know P w K mg base "check_machine" 3 ["machine"] false 1 F_check_machine) (k_least_form : Know P w K mg base "least_form" 3 ["first", "rows"] false 2 F_least_form)
    (pl : PL_least F F_check_machine F_least_form) : FnOk P w K mg base CX0 4 f fd ["machine"] (spD false 1 F) := by
  obtain ⟨f_check_machine, fd_check_machine, m_check_machine, kp_check_machine, bd_check_machine, G_check_machine⟩ := k_check_machine.ex
  obtain ⟨f_least_form, fd_least_form, m_least_form, kp_least_form, bd_least_form, G_least_form⟩ := k_least_form.ex
  refine okD Fn sc_least rfl (fun cdv A outer s H E hr => ?_) pl
  unfold t_least
  exact (ds_cons (ds_expr (do_call G_check_machine (hr.mono (by decide)) rfl m_check_machine kp_check_machine bd_check_machine (da_cons (do_nm (pv 0)) da_nil))) (ds_one (ds_ret (do_callS G_least_form (hr.mono (by decide)) rfl m_least_form kp_least_form bd_least_form (do_nm (pv 0))))))
/-! surplus_behind -/
abbrev s_surplus_behind : Stmt := topS 37
theorem sc_surplus_behind : FnScope ["surplus", "one", "other"] ["surplus", "one", "other"] (defScope s_surplus_behind) := ⟨rfl, rfl, rfl, by decide +kernel, rfl, by decide +kernel, by decide +kernel⟩
def t_surplus_behind : DTS := (sSeq (sPar 1 2 (afV (d2 gAdd (d2 gIx (dN 0) (dC (.int 0))) (dN 1)) (afV (d2 gAdd (d2 gIx (dN 0) (dC (.int 1))) (dN 2)) afNil))) (sSeq (sIf (dB (dM1 gStarts (dN 1) (dN 2))) (sRet (dTup (dCons (dSl (dN 1) (dPt (dB1 (g1 gLen) (dCons (dN 2) dNil))) dNoP) (dCons (dC (S [])) dNil)))) sNext) (sSeq (sIf (dB (dM1 gStarts (dN 2) (dN 1))) (sRet (dTup (dCons (dC (S [])) (dCons (dSl (dN 2) (dPt (dB1 (g1 gLen) (dCons (dN 1) dNil))) dNoP) dNil)))) sNext) (sRet (dC .none)))))
abbrev PL_surplus_behind (F  : DF) : Prop := ∀ (ds : List PyData) (q : PyData → PyData → Prop) (a : Addr), ds.length = 3 → F ds q → (t_surplus_behind) (endsD false a q) (startD false a 3 ds)
theorem ok_surplus_behind {P : Program} {w : World} {K : PySem.W.Frag} {mg : Str → Option Value} {base : Heap} {f : Addr} {fd : FuncData} {F  : DF} (Fn : FunD K "surplus_behind" "surplus_behind" (defArgs s_surplus_behind) (defBody s_surplus_behind) (defScope s_surplus_behind) [] [] f fd) (b_len : mg "len" = none)
    (pl : PL_surplus_behind F) : FnOk P w K mg base CX0 1 f fd ["surplus", "one", "other"] (spD false 3 F) := by
  refine okD Fn sc_surplus_behind rfl (fun cdv A outer s H E hr => ?_) pl
  unfold t_surplus_behind
  exact (ds_cons (ds_par rfl sc_surplus_behind.nd rfl rfl (by decide) rfl rfl (daf_v (do_add (do_ix (do_nm (pv 0)) do_int (fun _ _ => rfl)) (do_nm (pv 1))) (daf_v (do_add (do_ix (do_nm (pv 0)) do_int (fun _ _ => rfl)) (do_nm (pv 2))) daf_nil)) rfl) (ds_cons (ds_if (dp_val (do_starts (do_nm (pv 1)) (do_nm (pv 2)))) (ds_one (ds_ret (do_tup (da_cons (do_sl (do_nm (pv 1)) (dpo_some (do_len rfl b_len (do_nm (pv 2)))) dpo_none) (da_cons (do_strL [] (by decide +kernel)) da_nil))))) ds_nil) (ds_cons (ds_if (dp_val (do_starts (do_nm (pv 2)) (do_nm (pv 1)))) (ds_one (ds_ret (do_tup (da_cons (do_strL [] (by decide +kernel)) (da_cons (do_sl (do_nm (pv 2)) (dpo_some (do_len rfl b_len (do_nm (pv 1)))) dpo_none) da_nil))))) ds_nil) (ds_one (ds_ret do_non)))))
/-! first_unlike -/
abbrev s_first_unlike : Stmt := topS 38
theorem sc_first_unlike : FnScope ["one", "other", "waiting", "seen", "at", "side", "state", "twin", "surplus", "road", "row", "twin_row", "later", "word", "far", "twin_word", "twin_far"] ["one", "other"] (defScope s_first_unlike) := ⟨rfl, rfl, rfl, by decide +kernel, rfl, by decide +kernel, by decide +kernel⟩
def t_first_unlike (F_check_machine F_surplus_behind : DF) : DTS := (sSeq (sDrop (dCall 1 F_check_machine (dCons (dN 0) dNil))) (sSeq (sDrop (dCall 1 F_check_machine (dCons (dN 1) dNil))) (sSeq (sSetF 2 (fLst (dCons (dTup (dCons (dC (.int 0)) (dCons (dC (.int 0)) (dCons (dCall 3 F_surplus_behind (dCons (dTup (dCons (dC (S [])) (dCons (dC (S [])) dNil))) (dCons (d2 gIx (dN 0) (dC (.int 0))) (dCons (d2 gIx (dN 1) (dC (.int 0))) dNil)))) (dCons (dC (S [])) dNil))))) dNil))) (sSeq (sPar 3 4 (afF fT0 (afV (dC (.int 0)) afNil))) (sSeq (sWhile (dB (d2 gLt (dN 4) (dB1 (g1 gLen) (dCons (dN 2) dNil)))) (sSeq (sAsg (d2 gIx (dN 2) (dN 4)) (tgSeq 4 (tgCons (tgN 6) (tgCons (tgN 7) (tgCons (tgN 8) (tgCons (tgN 9) tgNil)))))) (sSeq (sAug 4 gAdd (dC (.int 1))) (sSeq (sIf (dB (d2x (gIs id) (dN 8) (dC .none))) (sRet (dN 9)) sNext) (sSeq (sPar 10 11 (afV (d2 gIx (d2 gIx (dN 0) (dC (.int 1))) (dN 6)) (afV (d2 gIx (d2 gIx (dN 1) (dC (.int 1))) (dN 7)) afNil))) (sSeq (sIf (dB (d2x (gEq (!·)) (d2 gAdd (d2 gIx (dN 8) (dC (.int 0))) (d2 gIx (dN 10) (dC (.int 2)))) (d2 gAdd (d2 gIx (dN 8) (dC (.int 1))) (d2 gIx (dN 11) (dC (.int 2)))))) (sRet (dN 9)) sNext) (sSeq (sIf (dB (d2 (gTIn id) (dTup (dCons (dN 6) (dCons (dN 7) dNil))) (dN 3))) sCont sNext) (sSeq (sTPut 3 (dTup (dCons (dN 6) (dCons (dN 7) dNil))) (dC (.bool true))) (sFor (iR1 (dCons (dC (.int 2)) dNil)) (tgN 5) (sSeq (sAsg (d2 gIx (dN 10) (dN 5)) (tgSeq 2 (tgCons (tgN 13) (tgCons (tgN 14) tgNil)))) (sSeq (sAsg (d2 gIx (dN 11) (dN 5)) (tgSeq 2 (tgCons (tgN 15) (tgCons (tgN 16) tgNil)))) (sSeq (sSet 12 (dCall 3 F_surplus_behind (dCons (dN 8) (dCons (dN 13) (dCons (dN 15) dNil))))) (sAppend 2 (dTup (dCons (dN 14) (dCons (dN 16) (dCons (dN 12) (dCons (d2 gAdd (dN 9) (d2 gIx (dC (S [76, 82])) (dN 5))) dNil)))))))))))))))))) (sRet (dC .none)))))))
abbrev PL_first_unlike (F F_check_machine F_surplus_behind : DF) : Prop := ∀ (ds : List PyData) (q : PyData → PyData → Prop) (a : Addr), ds.length = 2 → F ds q → (t_first_unlike F_check_machine F_surplus_behind) (endsD false a q) (startD false a 17 ds)
theorem ok_first_unlike {P : Program} {w : World} {K : PySem.W.Frag} {mg : Str → Option Value} {base : Heap} {f : Addr} {fd : FuncData} {F F_check_machine F_surplus_behind : DF} (Fn : FunD K "first_unlike" "first_unlike" (defArgs s_first_unlike) (defBody s_first_unlike) (defScope s_first_unlike) [] [] f fd) (k_check_machine : Know P w K mg base "check_machine" 3 ["machine"] false 1 F_check_machine) (k_surplus_behind : Know P w K mg base "surplus_behind" 1 ["surplus", "one", "other"] false 3 F_surplus_behind) (b_len : mg "len" = none) (b_range : mg "range" = none)
    (pl : PL_first_unlike F F_check_machine F_surplus_behind) : FnOk P w K mg base CX0 4 f fd ["one", "other"] (spD false 2 F) := by
  obtain ⟨f_check_machine, fd_check_machine, m_check_machine, kp_check_machine, bd_check_machine, G_check_machine⟩ := k_check_machine.ex
  obtain ⟨f_surplus_behind, fd_surplus_behind, m_surplus_behind, kp_surplus_behind, bd_surplus_behind, G_surplus_behind⟩ := k_surplus_behind.ex
  refine okD Fn sc_first_unlike rfl (fun cdv A outer s H E hr => ?_) pl
  unfold t_first_unlike
  exact (ds_cons (ds_expr (do_call G_check_machine (hr.mono (by decide)) rfl m_check_machine kp_check_machine bd_check_machine (da_cons (do_nm (pv 0)) da_nil))) (ds_cons (ds_expr (do_call G_check_machine (hr.mono (by decide)) rfl m_check_machine kp_check_machine bd_check_machine (da_cons (do_nm (pv 1)) da_nil))) (ds_cons (ds_setF sc_first_unlike.nd rfl (.inl rfl) (dfr_lst (da_cons (do_tup (da_cons do_int (da_cons do_int (da_cons (do_call G_surplus_behind (hr.mono (by decide)) rfl m_surplus_behind kp_surplus_behind bd_surplus_behind (da_cons (do_tup (da_cons (do_strL [] (by decide +kernel)) (da_cons (do_strL [] (by decide +kernel)) da_nil))) (da_cons (do_ix (do_nm (pv 0)) do_int (fun _ _ => rfl)) (da_cons (do_ix (do_nm (pv 1)) do_int (fun _ _ => rfl)) da_nil)))) (da_cons (do_strL [] (by decide +kernel)) da_nil))))) da_nil))) (ds_cons (ds_par rfl sc_first_unlike.nd rfl rfl (by decide) rfl rfl (daf_f dfr_t0 (daf_v do_int daf_nil)) rfl) (ds_cons (ds_while .never (dp_lt (do_nm (pv 4)) (do_len rfl b_len (do_nm (pv 2)))) (ds_cons (ds_asg (do_ix (do_nm (pv 2)) (do_nm (pv 4)) (fun _ _ => rfl)) (dg_seq (n := 4) rfl (dgs_cons (dg_name sc_first_unlike.nd rfl (.inl rfl)) (dgs_cons (dg_name sc_first_unlike.nd rfl (.inl rfl)) (dgs_cons (dg_name sc_first_unlike.nd rfl (.inl rfl)) (dgs_cons (dg_name sc_first_unlike.nd rfl (.inl rfl)) dgs_nil)))))) (ds_cons (ds_augAdd sc_first_unlike.nd rfl (.inl rfl) do_int) (ds_cons (ds_if (dp_is (do_nm (pv 8)) do_non) (ds_one (ds_ret (do_nm (pv 9)))) ds_nil) (ds_cons (ds_par rfl sc_first_unlike.nd rfl rfl (by decide) rfl rfl (daf_v (do_ix (do_ix (do_nm (pv 0)) do_int (fun _ _ => rfl)) (do_nm (pv 6)) (fun _ _ => rfl)) (daf_v (do_ix (do_ix (do_nm (pv 1)) do_int (fun _ _ => rfl)) (do_nm (pv 7)) (fun _ _ => rfl)) daf_nil)) rfl) (ds_cons (ds_if (dp_ne hr.units (do_add (do_ix (do_nm (pv 8)) do_int (fun _ _ => rfl)) (do_ix (do_nm (pv 10)) do_int (fun _ _ => rfl))) (do_add (do_ix (do_nm (pv 8)) do_int (fun _ _ => rfl)) (do_ix (do_nm (pv 11)) do_int (fun _ _ => rfl)))) (ds_one (ds_ret (do_nm (pv 9)))) ds_nil) (ds_cons (ds_if (dp_tin (hu_of hr) (do_tup (da_cons (do_nm (pv 6)) (da_cons (do_nm (pv 7)) da_nil))) (do_nm (pv 3))) (ds_one ds_continue) ds_nil) (ds_cons (ds_tput (hu_of hr) (pv 3) (do_tup (da_cons (do_nm (pv 6)) (da_cons (do_nm (pv 7)) da_nil))) do_bl) (ds_one (ds_for .never rfl (di_range1 rfl b_range (da_cons do_int da_nil)) (dg_name sc_first_unlike.nd rfl (.inl rfl)) (ds_cons (ds_asg (do_ix (do_nm (pv 10)) (do_nm (pv 5)) (fun _ _ => rfl)) (dg_seq (n := 2) rfl (dgs_cons (dg_name sc_first_unlike.nd rfl (.inl rfl)) (dgs_cons (dg_name sc_first_unlike.nd rfl (.inl rfl)) dgs_nil)))) (ds_cons (ds_asg (do_ix (do_nm (pv 11)) (do_nm (pv 5)) (fun _ _ => rfl)) (dg_seq (n := 2) rfl (dgs_cons (dg_name sc_first_unlike.nd rfl (.inl rfl)) (dgs_cons (dg_name sc_first_unlike.nd rfl (.inl rfl)) dgs_nil)))) (ds_cons (ds_set sc_first_unlike.nd rfl (.inl rfl) (do_call G_surplus_behind (hr.mono (by decide)) rfl m_surplus_behind kp_surplus_behind bd_surplus_behind (da_cons (do_nm (pv 8)) (da_cons (do_nm (pv 13)) (da_cons (do_nm (pv 15)) da_nil))))) (ds_one (ds_append (pv 2) (do_tup (da_cons (do_nm (pv 14)) (da_cons (do_nm (pv 16)) (da_cons (do_nm (pv 12)) (da_cons (do_add (do_nm (pv 9)) (do_ix (do_strL [76, 82] (by decide +kernel)) (do_nm (pv 5)) (fun _ _ => rfl))) da_nil)))))))))))))))))))) (ds_one (ds_ret do_non)))))))
/-! alike -/
abbrev s_alike : Stmt := topS 39
theorem sc_alike : FnScope ["one", "other"] ["one", "other"] (defScope s_alike) := ⟨rfl, rfl, rfl, by decide +kernel, rfl, by decide +kernel, by decide +kernel⟩
def t_alike (F_first_unlike : DF) : DTS := (sRet (d2x (gIs id) (dCall 2 F_first_unlike (dCons (dN 0) (dCons (dN 1) dNil))) (dC .none)))
abbrev PL_alike (F F_first_unlike : DF) : Prop := ∀ (ds : List PyData) (q : PyData → PyData → Prop) (a : Addr), ds.length = 2 → F ds q → (t_alike F_first_unlike) (endsD false a q) (startD false a 2 ds)
theorem ok_alike {P : Program} {w : World} {K : PySem.W.Frag} {mg : Str → Option Value} {base : Heap} {f : Addr} {fd : FuncData} {F F_first_unlike : DF} (Fn : FunD K "alike" "alike" (defArgs s_alike) (defBody s_alike) (defScope s_alike) [] [] f fd) (k_first_unlike : Know P w K mg base "first_unlike" 4 ["one", "other"] false 2 F_first_unlike)
    (pl : PL_alike F F_first_unlike) : FnOk P w K mg base CX0 5 f fd ["one", "other"] (spD false 2 F) := by
  obtain ⟨f_first_unlike, fd_first_unlike, m_first_unlike, kp_first_unlike, bd_first_unlike, G_first_unlike⟩ := k_first_unlike.ex
  refine okD Fn sc_alike rfl (fun cdv A outer s H E hr => ?_) pl
  unfold t_alike
  exact (ds_one (ds_ret (do_is (do_call G_first_unlike (hr.mono (by decide)) rfl m_first_unlike kp_first_unlike bd_first_unlike (da_cons (do_nm (pv 0)) (da_cons (do_nm (pv 1)) da_nil))) do_non)))
/-! check_number -/
abbrev s_check_number : Stmt := topS 9
theorem sc_check_number : FnScope ["number", "least"] ["number", "least"] (defScope s_check_number) := ⟨rfl, rfl, rfl, by decide +kernel, rfl, by decide +kernel, by decide +kernel⟩
def t_check_number : DTS := (sIf (dB (d2 gLt (dN 0) (dN 1))) sNever sNext)
abbrev PL_check_number (F  : DF) : Prop := ∀ (ds : List PyData) (q : PyData → PyData → Prop) (a : Addr), ds.length = 2 → F ds q → (t_check_number) (endsD false a q) (startD false a 2 ds)
theorem ok_check_number {P : Program} {w : World} {K : PySem.W.Frag} {mg : Str → Option Value} {base : Heap} {f : Addr} {fd : FuncData} {F  : DF} (Fn : FunD K "check_number" "check_number" (defArgs s_check_number) (defBody s_check_number) (defScope s_check_number) [] [] f fd)
    (pl : PL_check_number F) : FnOk P w K mg base CX0 1 f fd ["number", "least"] (spD false 2 F) := by
  refine okD Fn sc_check_number rfl (fun cdv A outer s H E hr => ?_) pl
  unfold t_check_number
  exact (ds_one (ds_if (dp_lt (do_nm (pv 0)) (do_nm (pv 1))) (ds_one ds_never) ds_nil))
/-! roads_to -/
abbrev s_roads_to : Stmt := topS 28
theorem sc_roads_to : FnScope ["length", "found", "at"] ["length"] (defScope s_roads_to) := ⟨rfl, rfl, rfl, by decide +kernel, rfl, by decide +kernel, by decide +kernel⟩
def t_roads_to : DTS := (sSeq (sPar 1 2 (afF (fLst (dCons (dC (S [])) dNil)) (afV (dC (.int 0)) afNil))) (sSeq (sWhile (dB (d2 gLt (dB1 (g1 gLen) (dCons (d2 gIx (dN 1) (dN 2)) dNil)) (dN 0))) (sSeq (sExtend 1 (dLst (dCons (d2 gAdd (d2 gIx (dN 1) (dN 2)) (dC (S [76]))) (dCons (d2 gAdd (d2 gIx (dN 1) (dN 2)) (dC (S [82]))) dNil)))) (sAug 2 gAdd (dC (.int 1))))) (sRet (dN 1))))
abbrev PL_roads_to (F  : DF) : Prop := ∀ (ds : List PyData) (q : PyData → PyData → Prop) (a : Addr), ds.length = 1 → F ds q → (t_roads_to) (endsD false a q) (startD false a 3 ds)
theorem ok_roads_to {P : Program} {w : World} {K : PySem.W.Frag} {mg : Str → Option Value} {base : Heap} {f : Addr} {fd : FuncData} {F  : DF} (Fn : FunD K "roads_to" "roads_to" (defArgs s_roads_to) (defBody s_roads_to) (defScope s_roads_to) [] [] f fd) (b_len : mg "len" = none)
    (pl : PL_roads_to F) : FnOk P w K mg base CX0 1 f fd ["length"] (spD false 1 F) := by
  refine okD Fn sc_roads_to rfl (fun cdv A outer s H E hr => ?_) pl
  unfold t_roads_to
  exact (ds_cons (ds_par rfl sc_roads_to.nd rfl rfl (by decide) rfl rfl (daf_f (dfr_lst (da_cons (do_strL [] (by decide +kernel)) da_nil)) (daf_v do_int daf_nil)) rfl) (ds_cons (ds_while .never (dp_lt (do_len rfl b_len (do_ix (do_nm (pv 1)) (do_nm (pv 2)) (fun _ _ => rfl))) (do_nm (pv 0))) (ds_cons (ds_extend (pv 1) (do_lst (da_cons (do_add (do_ix (do_nm (pv 1)) (do_nm (pv 2)) (fun _ _ => rfl)) (do_strL [76] (by decide +kernel))) (da_cons (do_add (do_ix (do_nm (pv 1)) (do_nm (pv 2)) (fun _ _ => rfl)) (do_strL [82] (by decide +kernel))) da_nil)))) (ds_one (ds_augAdd sc_roads_to.nd rfl (.inl rfl) do_int)))) (ds_one (ds_ret (do_nm (pv 1))))))
/-! rests -/
abbrev s_rests : Stmt := topS 26
theorem sc_rests : FnScope ["texts", "many", "one", "other"] ["texts"] (defScope s_rests) := ⟨rfl, rfl, rfl, by decide +kernel, rfl, by decide +kernel, by decide +kernel⟩
def t_rests : DTS := (sSeq (sAsg (dN 0) (tgSeq 2 (tgCons (tgN 2) (tgCons (tgN 3) tgNil)))) (sSeq (sSet 1 (dC (.int 0))) (sSeq (sWhile (dAnd (dB (d2 gLt (dN 1) (dB1 gMin (dCons (dB1 (g1 gLen) (dCons (dN 2) dNil)) (dCons (dB1 (g1 gLen) (dCons (dN 3) dNil)) dNil))))) (dB (d2x (gEq id) (d2 gIx (dN 2) (dN 1)) (d2 gIx (dN 3) (dN 1))))) (sAug 1 gAdd (dC (.int 1)))) (sRet (dTup (dCons (dSl (dN 2) (dPt (dN 1)) dNoP) (dCons (dSl (dN 3) (dPt (dN 1)) dNoP) dNil)))))))
abbrev PL_rests (F  : DF) : Prop := ∀ (ds : List PyData) (q : PyData → PyData → Prop) (a : Addr), ds.length = 1 → F ds q → (t_rests) (endsD false a q) (startD false a 4 ds)
theorem ok_rests {P : Program} {w : World} {K : PySem.W.Frag} {mg : Str → Option Value} {base : Heap} {f : Addr} {fd : FuncData} {F  : DF} (Fn : FunD K "rests" "rests" (defArgs s_rests) (defBody s_rests) (defScope s_rests) [] [] f fd) (b_min : mg "min" = none) (b_len : mg "len" = none)
    (pl : PL_rests F) : FnOk P w K mg base CX0 1 f fd ["texts"] (spD false 1 F) := by
  refine okD Fn sc_rests rfl (fun cdv A outer s H E hr => ?_) pl
  unfold t_rests
  exact (ds_cons (ds_asg (do_nm (pv 0)) (dg_seq (n := 2) rfl (dgs_cons (dg_name sc_rests.nd rfl (.inl rfl)) (dgs_cons (dg_name sc_rests.nd rfl (.inl rfl)) dgs_nil)))) (ds_cons (ds_set sc_rests.nd rfl (.inl rfl) do_int) (ds_cons (ds_while .never (dp_w (dw_and (dp_lt (do_nm (pv 1)) (do_min2 rfl rfl b_min (da_cons (do_len rfl b_len (do_nm (pv 2))) (da_cons (do_len rfl b_len (do_nm (pv 3))) da_nil)))) (dw_and1 (dp_eq hr.units (do_ix (do_nm (pv 2)) (do_nm (pv 1)) (fun _ _ => rfl)) (do_ix (do_nm (pv 3)) (do_nm (pv 1)) (fun _ _ => rfl)))))) (ds_one (ds_augAdd sc_rests.nd rfl (.inl rfl) do_int))) (ds_one (ds_ret (do_tup (da_cons (do_sl (do_nm (pv 2)) (dpo_some (do_nm (pv 1))) dpo_none) (da_cons (do_sl (do_nm (pv 3)) (dpo_some (do_nm (pv 1))) dpo_none) da_nil))))))))
/-! mark_of -/
abbrev s_mark_of : Stmt := topS 30
theorem sc_mark_of : FnScope ["table", "road", "later", "parts", "rest", "one", "other"] ["table", "road", "later"] (defScope s_mark_of) := ⟨rfl, rfl, rfl, by decide +kernel, rfl, by decide +kernel, by decide +kernel⟩
def t_mark_of (F_rests : DF) : DTS := (sSeq (sSetF 3 (fLst dNil)) (sSeq (sFor (iAny (dN 2)) (tgN 4) (sSeq (sAsg (dCall 1 F_rests (dCons (dTup (dCons (d2 gDGet (dN 0) (dN 1)) (dCons (d2 gDGet (dN 0) (d2 gAdd (dN 1) (dN 4))) dNil))) dNil)) (tgSeq 2 (tgCons (tgN 5) (tgCons (tgN 6) tgNil)))) (sAppend 3 (d2 gAdd (d2 gAdd (dN 5) (dC (S [45]))) (dN 6))))) (sRet (dM1 gJoin (dC (S [32])) (dN 3)))))
abbrev PL_mark_of (F F_rests : DF) : Prop := ∀ (ds : List PyData) (q : PyData → PyData → Prop) (a : Addr), ds.length = 3 → F ds q → (t_mark_of F_rests) (endsD false a q) (startD false a 7 ds)
theorem ok_mark_of {P : Program} {w : World} {K : PySem.W.Frag} {mg : Str → Option Value} {base : Heap} {f : Addr} {fd : FuncData} {F F_rests : DF} (Fn : FunD K "mark_of" "mark_of" (defArgs s_mark_of) (defBody s_mark_of) (defScope s_mark_of) [] [] f fd) (k_rests : Know P w K mg base "rests" 1 ["texts"] false 1 F_rests)
    (pl : PL_mark_of F F_rests) : FnOk P w K mg base CX0 2 f fd ["table", "road", "later"] (spD false 3 F) := by
  obtain ⟨f_rests, fd_rests, m_rests, kp_rests, bd_rests, G_rests⟩ := k_rests.ex
  refine okD Fn sc_mark_of rfl (fun cdv A outer s H E hr => ?_) pl
  unfold t_mark_of
  exact (ds_cons (ds_setF sc_mark_of.nd rfl (.inl rfl) (dfr_lst da_nil)) (ds_cons (ds_for .never rfl (di_any (do_nm (pv 2))) (dg_name sc_mark_of.nd rfl (.inl rfl)) (ds_cons (ds_asg (do_call G_rests (hr.mono (by decide)) rfl m_rests kp_rests bd_rests (da_cons (do_tup (da_cons (do_dget (hu_of hr) (do_nm (pv 0)) (do_nm (pv 1)) (fun _ _ => rfl)) (da_cons (do_dget (hu_of hr) (do_nm (pv 0)) (do_add (do_nm (pv 1)) (do_nm (pv 4))) (fun _ _ => rfl)) da_nil))) da_nil)) (dg_seq (n := 2) rfl (dgs_cons (dg_name sc_mark_of.nd rfl (.inl rfl)) (dgs_cons (dg_name sc_mark_of.nd rfl (.inl rfl)) dgs_nil)))) (ds_one (ds_append (pv 3) (do_add (do_add (do_nm (pv 5)) (do_strL [45] (by decide +kernel))) (do_nm (pv 6))))))) (ds_one (ds_ret (do_join (do_strL [32] (by decide +kernel)) (do_nm (pv 3)))))))
/-! classes_of -/
abbrev s_classes_of : Stmt := topS 31
theorem sc_classes_of : FnScope ["table", "most", "later", "roads", "numbers", "moves", "pair", "turn", "road", "mark"] ["table", "most"] (defScope s_classes_of) := ⟨rfl, rfl, rfl, by decide +kernel, rfl, by decide +kernel, by decide +kernel⟩
def t_classes_of (F_roads_to F_mark_of : DF) : DTS := (sSeq (sSet 2 (dCall 1 F_roads_to (dCons (d2 gSub (dN 1) (dC (.int 1))) dNil))) (sSeq (sPar3 3 4 5 (afF (fLst (dCons (dC (S [])) dNil)) (afF (fD1 (dCall 3 F_mark_of (dCons (dN 0) (dCons (dC (S [])) (dCons (dN 2) dNil)))) (dC (.int 0))) (afF (fLst dNil) afNil)))) (sSeq (sWhile (dB (d2 gLt (dB1 (g1 gLen) (dCons (dN 5) dNil)) (dB1 (g1 gLen) (dCons (dN 3) dNil)))) (sSeq (sSetF 6 (fLst dNil)) (sSeq (sFor (iAny (dC (S [76, 82]))) (tgN 7) (sSeq (sSet 8 (d2 gAdd (d2 gIx (dN 3) (dB1 (g1 gLen) (dCons (dN 5) dNil))) (dN 7))) (sSeq (sSet 9 (dCall 3 F_mark_of (dCons (dN 0) (dCons (dN 8) (dCons (dN 2) dNil))))) (sSeq (sIf (dB (d2 (gDIn (!·)) (dN 9) (dN 4))) (sSeq (sDPut 4 (dN 9) (dB1 (g1 gLen) (dCons (dN 3) dNil))) (sAppend 3 (dN 8))) sNext) (sAppend 6 (d2 gDGet (dN 4) (dN 9))))))) (sSeq (sIf (dB (d2 gGt (dB1 (g1 gLen) (dCons (dN 3) dNil)) (dN 1))) (sRet (dC .none)) sNext) (sAppend 5 (dN 6)))))) (sRet (dTup (dCons (dN 3) (dCons (dN 5) dNil)))))))
abbrev PL_classes_of (F F_roads_to F_mark_of : DF) : Prop := ∀ (ds : List PyData) (q : PyData → PyData → Prop) (a : Addr), ds.length = 2 → F ds q → (t_classes_of F_roads_to F_mark_of) (endsD false a q) (startD false a 10 ds)
theorem ok_classes_of {P : Program} {w : World} {K : PySem.W.Frag} {mg : Str → Option Value} {base : Heap} {f : Addr} {fd : FuncData} {F F_roads_to F_mark_of : DF} (Fn : FunD K "classes_of" "classes_of" (defArgs s_classes_of) (defBody s_classes_of) (defScope s_classes_of) [] [] f fd) (k_roads_to : Know P w K mg base "roads_to" 1 ["length"] false 1 F_roads_to) (k_mark_of : Know P w K mg base "mark_of" 2 ["table", "road", "later"] false 3 F_mark_of) (b_len : mg "len" = none)
    (pl : PL_classes_of F F_roads_to F_mark_of) : FnOk P w K mg base CX0 3 f fd ["table", "most"] (spD false 2 F) := by
  obtain ⟨f_roads_to, fd_roads_to, m_roads_to, kp_roads_to, bd_roads_to, G_roads_to⟩ := k_roads_to.ex
  obtain ⟨f_mark_of, fd_mark_of, m_mark_of, kp_mark_of, bd_mark_of, G_mark_of⟩ := k_mark_of.ex
  refine okD Fn sc_classes_of rfl (fun cdv A outer s H E hr => ?_) pl
  unfold t_classes_of
  exact (ds_cons (ds_set sc_classes_of.nd rfl (.inl rfl) (do_call G_roads_to (hr.mono (by decide)) rfl m_roads_to kp_roads_to bd_roads_to (da_cons (do_sub (do_nm (pv 1)) do_int) da_nil))) (ds_cons (ds_par3 rfl sc_classes_of.nd rfl rfl rfl (by decide) (by decide) (by decide) rfl rfl rfl (daf_f (dfr_lst (da_cons (do_strL [] (by decide +kernel)) da_nil)) (daf_f (dfr_d1 (do_call G_mark_of (hr.mono (by decide)) rfl m_mark_of kp_mark_of bd_mark_of (da_cons (do_nm (pv 0)) (da_cons (do_strL [] (by decide +kernel)) (da_cons (do_nm (pv 2)) da_nil)))) do_int) (daf_f (dfr_lst da_nil) daf_nil))) rfl) (ds_cons (ds_while .never (dp_lt (do_len rfl b_len (do_nm (pv 5))) (do_len rfl b_len (do_nm (pv 3)))) (ds_cons (ds_setF sc_classes_of.nd rfl (.inl rfl) (dfr_lst da_nil)) (ds_cons (ds_for .never rfl (di_any (do_strL [76, 82] (by decide +kernel))) (dg_name sc_classes_of.nd rfl (.inl rfl)) (ds_cons (ds_set sc_classes_of.nd rfl (.inl rfl) (do_add (do_ix (do_nm (pv 3)) (do_len rfl b_len (do_nm (pv 5))) (fun _ _ => rfl)) (do_nm (pv 7)))) (ds_cons (ds_set sc_classes_of.nd rfl (.inl rfl) (do_call G_mark_of (hr.mono (by decide)) rfl m_mark_of kp_mark_of bd_mark_of (da_cons (do_nm (pv 0)) (da_cons (do_nm (pv 8)) (da_cons (do_nm (pv 2)) da_nil))))) (ds_cons (ds_if (dp_dnotin (hu_of hr) (do_nm (pv 9)) (do_nm (pv 4))) (ds_cons (ds_dput (hu_of hr) (pv 4) (do_nm (pv 9)) (do_len rfl b_len (do_nm (pv 3)))) (ds_one (ds_append (pv 3) (do_nm (pv 8))))) ds_nil) (ds_one (ds_append (pv 6) (do_dget (hu_of hr) (do_nm (pv 4)) (do_nm (pv 9)) (fun _ _ => rfl)))))))) (ds_cons (ds_if (dp_gt (do_len rfl b_len (do_nm (pv 3))) (do_nm (pv 1))) (ds_one (ds_ret do_non)) ds_nil) (ds_one (ds_append (pv 5) (do_nm (pv 6)))))))) (ds_one (ds_ret (do_tup (da_cons (do_nm (pv 3)) (da_cons (do_nm (pv 5)) da_nil))))))))
/-! check_road -/
abbrev s_check_road : Stmt := topS 8
theorem sc_check_road : FnScope ["road"] ["road"] (defScope s_check_road) := ⟨rfl, rfl, rfl, by decide +kernel, rfl, by decide +kernel, by decide +kernel⟩
def t_check_road (F_has_turns_alone : DF) : DTS := (sIf (dNot (dB (dCall 1 F_has_turns_alone (dCons (dN 0) dNil)))) sNever sNext)
abbrev PL_check_road (F F_has_turns_alone : DF) : Prop := ∀ (ds : List PyData) (q : PyData → PyData → Prop) (a : Addr), ds.length = 1 → F ds q → (t_check_road F_has_turns_alone) (endsD false a q) (startD false a 1 ds)
theorem ok_check_road {P : Program} {w : World} {K : PySem.W.Frag} {mg : Str → Option Value} {base : Heap} {f : Addr} {fd : FuncData} {F F_has_turns_alone : DF} (Fn : FunD K "check_road" "check_road" (defArgs s_check_road) (defBody s_check_road) (defScope s_check_road) [] [] f fd) (k_has_turns_alone : Know P w K mg base "has_turns_alone" 1 ["word"] false 1 F_has_turns_alone)
    (pl : PL_check_road F F_has_turns_alone) : FnOk P w K mg base CX0 2 f fd ["road"] (spD false 1 F) := by
  obtain ⟨f_has_turns_alone, fd_has_turns_alone, m_has_turns_alone, kp_has_turns_alone, bd_has_turns_alone, G_has_turns_alone⟩ := k_has_turns_alone.ex
  refine okD Fn sc_check_road rfl (fun cdv A outer s H E hr => ?_) pl
  unfold t_check_road
  exact (ds_one (ds_if (dp_not (dp_val (do_call G_has_turns_alone (hr.mono (by decide)) rfl m_has_turns_alone kp_has_turns_alone bd_has_turns_alone (da_cons (do_nm (pv 0)) da_nil)))) (ds_one ds_never) ds_nil))
/-! sure_of -/
abbrev s_sure_of : Stmt := topS 32
theorem sc_sure_of : FnScope ["table", "road", "pair", "ends", "sure", "side", "word"] ["table", "road", "pair", "ends"] (defScope s_sure_of) := ⟨rfl, rfl, rfl, by decide +kernel, rfl, by decide +kernel, by decide +kernel⟩
def t_sure_of (F_rests : DF) : DTS := (sSeq (sSet 4 (d2 gDGet (dN 0) (dN 1))) (sSeq (sFor (iR1 (dCons (dC (.int 2)) dNil)) (tgN 5) (sSeq (sSet 6 (d2 gDGet (dN 0) (d2 gAdd (dN 1) (d2 gIx (dC (S [76, 82])) (dN 5))))) (sSeq (sIf (dB (d2 gGt (d2 gIx (dN 3) (d2 gIx (dN 2) (dN 5))) (dB1 (g1 gLen) (dCons (dN 6) dNil)))) (sRet (dC .none)) sNext) (sSeq (sSet 6 (dSl (dN 6) dNoP (dPt (d2 gSub (dB1 (g1 gLen) (dCons (dN 6) dNil)) (d2 gIx (dN 3) (d2 gIx (dN 2) (dN 5))))))) (sSet 4 (dSl (dN 4) dNoP (dPt (d2 gSub (dB1 (g1 gLen) (dCons (dN 4) dNil)) (dB1 (g1 gLen) (dCons (d2 gIx (dCall 1 F_rests (dCons (dTup (dCons (dN 4) (dCons (dN 6) dNil))) dNil)) (dC (.int 0))) dNil)))))))))) (sRet (dN 4))))
abbrev PL_sure_of (F F_rests : DF) : Prop := ∀ (ds : List PyData) (q : PyData → PyData → Prop) (a : Addr), ds.length = 4 → F ds q → (t_sure_of F_rests) (endsD false a q) (startD false a 7 ds)
theorem ok_sure_of {P : Program} {w : World} {K : PySem.W.Frag} {mg : Str → Option Value} {base : Heap} {f : Addr} {fd : FuncData} {F F_rests : DF} (Fn : FunD K "sure_of" "sure_of" (defArgs s_sure_of) (defBody s_sure_of) (defScope s_sure_of) [] [] f fd) (k_rests : Know P w K mg base "rests" 1 ["texts"] false 1 F_rests) (b_range : mg "range" = none) (b_len : mg "len" = none)
    (pl : PL_sure_of F F_rests) : FnOk P w K mg base CX0 2 f fd ["table", "road", "pair", "ends"] (spD false 4 F) := by
  obtain ⟨f_rests, fd_rests, m_rests, kp_rests, bd_rests, G_rests⟩ := k_rests.ex
  refine okD Fn sc_sure_of rfl (fun cdv A outer s H E hr => ?_) pl
  unfold t_sure_of
  exact (ds_cons (ds_set sc_sure_of.nd rfl (.inl rfl) (do_dget (hu_of hr) (do_nm (pv 0)) (do_nm (pv 1)) (fun _ _ => rfl))) (ds_cons (ds_for .never rfl (di_range1 rfl b_range (da_cons do_int da_nil)) (dg_name sc_sure_of.nd rfl (.inl rfl)) (ds_cons (ds_set sc_sure_of.nd rfl (.inl rfl) (do_dget (hu_of hr) (do_nm (pv 0)) (do_add (do_nm (pv 1)) (do_ix (do_strL [76, 82] (by decide +kernel)) (do_nm (pv 5)) (fun _ _ => rfl))) (fun _ _ => rfl))) (ds_cons (ds_if (dp_gt (do_ix (do_nm (pv 3)) (do_ix (do_nm (pv 2)) (do_nm (pv 5)) (fun _ _ => rfl)) (fun _ _ => rfl)) (do_len rfl b_len (do_nm (pv 6)))) (ds_one (ds_ret do_non)) ds_nil) (ds_cons (ds_set sc_sure_of.nd rfl (.inl rfl) (do_sl (do_nm (pv 6)) dpo_none (dpo_some (do_sub (do_len rfl b_len (do_nm (pv 6))) (do_ix (do_nm (pv 3)) (do_ix (do_nm (pv 2)) (do_nm (pv 5)) (fun _ _ => rfl)) (fun _ _ => rfl)))))) (ds_one (ds_set sc_sure_of.nd rfl (.inl rfl) (do_sl (do_nm (pv 4)) dpo_none (dpo_some (do_sub (do_len rfl b_len (do_nm (pv 4))) (do_len rfl b_len (do_ix (do_call G_rests (hr.mono (by decide)) rfl m_rests kp_rests bd_rests (da_cons (do_tup (da_cons (do_nm (pv 4)) (da_cons (do_nm (pv 6)) da_nil))) da_nil)) do_int (fun _ _ => rfl)))))))))))) (ds_one (ds_ret (do_nm (pv 4))))))
/-! ends_of -/
abbrev s_ends_of : Stmt := topS 33
theorem sc_ends_of : FnScope ["table", "roads", "moves", "ends", "grows", "road", "state", "sure"] ["table", "roads", "moves"] (defScope s_ends_of) := ⟨rfl, rfl, rfl, by decide +kernel, rfl, by decide +kernel, by decide +kernel⟩
def t_ends_of (F_sure_of : DF) : DTS := (sSeq (sSetF 3 (fLc (iAny (dN 1)) (tgN 5) dYes (dC (.int 0)) [5])) (sSeq (sSet 4 (dC (.bool true))) (sSeq (sWhile (dB (dN 4)) (sSeq (sSet 4 (dC (.bool false))) (sFor (iEnumD (dN 1)) (tgSeq 2 (tgCons (tgN 6) (tgCons (tgN 5) tgNil))) (sSeq (sSet 7 (dCall 4 F_sure_of (dCons (dN 0) (dCons (dN 5) (dCons (d2 gIx (dN 2) (dN 6)) (dCons (dN 3) dNil)))))) (sSeq (sIf (dB (d2x (gIs id) (dN 7) (dC .none))) (sRet (dC .none)) sNext) (sSeq (sSet 4 (dOrV (dN 4) (d2 gGt (d2 gSub (dB1 (g1 gLen) (dCons (d2 gDGet (dN 0) (dN 5)) dNil)) (dB1 (g1 gLen) (dCons (dN 7) dNil))) (d2 gIx (dN 3) (dN 6))))) (sSetIx 3 (dN 6) (d2 gSub (dB1 (g1 gLen) (dCons (d2 gDGet (dN 0) (dN 5)) dNil)) (dB1 (g1 gLen) (dCons (dN 7) dNil)))))))))) (sRet (dN 3)))))
abbrev PL_ends_of (F F_sure_of : DF) : Prop := ∀ (ds : List PyData) (q : PyData → PyData → Prop) (a : Addr), ds.length = 3 → F ds q → (t_ends_of F_sure_of) (endsD false a q) (startD false a 8 ds)
theorem ok_ends_of {P : Program} {w : World} {K : PySem.W.Frag} {mg : Str → Option Value} {base : Heap} {f : Addr} {fd : FuncData} {F F_sure_of : DF} (Fn : FunD K "ends_of" "ends_of" (defArgs s_ends_of) (defBody s_ends_of) (defScope s_ends_of) [] [] f fd) (k_sure_of : Know P w K mg base "sure_of" 2 ["table", "road", "pair", "ends"] false 4 F_sure_of) (b_enumerate : mg "enumerate" = none) (b_len : mg "len" = none)
    (pl : PL_ends_of F F_sure_of) : FnOk P w K mg base CX0 3 f fd ["table", "roads", "moves"] (spD false 3 F) := by
  obtain ⟨f_sure_of, fd_sure_of, m_sure_of, kp_sure_of, bd_sure_of, G_sure_of⟩ := k_sure_of.ex
  refine okD Fn sc_ends_of rfl (fun cdv A outer s H E hr => ?_) pl
  unfold t_ends_of
  exact (ds_cons (ds_setLc (own := [("road", 5)]) (by decide) rfl sc_ends_of.nd rfl rfl rfl (di_any (do_nm (pv 1))) (blkOk_by (N := ["table", "roads", "moves", "ends", "grows", "road", "state", "sure"]) (sc := defScope s_ends_of) (by decide +kernel)) (fun _ _ _ _ _ => (dg_name sc_ends_of.nd rfl (.inl rfl))) (fun _ _ _ _ _ => dts_nil) (fun _ _ _ _ _ => do_int)) (ds_cons (ds_set sc_ends_of.nd rfl (.inl rfl) do_bl) (ds_cons (ds_while .never (dp_val (do_nm (pv 4))) (ds_cons (ds_set sc_ends_of.nd rfl (.inl rfl) do_bl) (ds_one (ds_for .never rfl (di_enum rfl b_enumerate (do_nm (pv 1))) (dg_seq (n := 2) rfl (dgs_cons (dg_name sc_ends_of.nd rfl (.inl rfl)) (dgs_cons (dg_name sc_ends_of.nd rfl (.inl rfl)) dgs_nil))) (ds_cons (ds_set sc_ends_of.nd rfl (.inl rfl) (do_call G_sure_of (hr.mono (by decide)) rfl m_sure_of kp_sure_of bd_sure_of (da_cons (do_nm (pv 0)) (da_cons (do_nm (pv 5)) (da_cons (do_ix (do_nm (pv 2)) (do_nm (pv 6)) (fun _ _ => rfl)) (da_cons (do_nm (pv 3)) da_nil)))))) (ds_cons (ds_if (dp_is (do_nm (pv 7)) do_non) (ds_one (ds_ret do_non)) ds_nil) (ds_cons (ds_set sc_ends_of.nd rfl (.inl rfl) (do_or (do_nm (pv 4)) (do_one (do_gt (do_sub (do_len rfl b_len (do_dget (hu_of hr) (do_nm (pv 0)) (do_nm (pv 5)) (fun _ _ => rfl))) (do_len rfl b_len (do_nm (pv 7)))) (do_ix (do_nm (pv 3)) (do_nm (pv 6)) (fun _ _ => rfl)))))) (ds_one (ds_setIx (pv 3) (do_nm (pv 6)) (do_sub (do_len rfl b_len (do_dget (hu_of hr) (do_nm (pv 0)) (do_nm (pv 5)) (fun _ _ => rfl))) (do_len rfl b_len (do_nm (pv 7))))))))))))) (ds_one (ds_ret (do_nm (pv 3)))))))
/-! word_between -/
abbrev s_word_between : Stmt := topS 34
theorem sc_word_between : FnScope ["table", "road", "turn", "end", "later_end", "word"] ["table", "road", "turn", "end", "later_end"] (defScope s_word_between) := ⟨rfl, rfl, rfl, by decide +kernel, rfl, by decide +kernel, by decide +kernel⟩
def t_word_between : DTS := (sSeq (sSet 5 (d2 gDGet (dN 0) (d2 gAdd (dN 1) (dN 2)))) (sRet (dSl (dN 5) (dPt (d2 gSub (dB1 (g1 gLen) (dCons (d2 gDGet (dN 0) (dN 1)) dNil)) (dN 3))) (dPt (d2 gSub (dB1 (g1 gLen) (dCons (dN 5) dNil)) (dN 4))))))
abbrev PL_word_between (F  : DF) : Prop := ∀ (ds : List PyData) (q : PyData → PyData → Prop) (a : Addr), ds.length = 5 → F ds q → (t_word_between) (endsD false a q) (startD false a 6 ds)
theorem ok_word_between {P : Program} {w : World} {K : PySem.W.Frag} {mg : Str → Option Value} {base : Heap} {f : Addr} {fd : FuncData} {F  : DF} (Fn : FunD K "word_between" "word_between" (defArgs s_word_between) (defBody s_word_between) (defScope s_word_between) [] [] f fd) (b_len : mg "len" = none)
    (pl : PL_word_between F) : FnOk P w K mg base CX0 1 f fd ["table", "road", "turn", "end", "later_end"] (spD false 5 F) := by
  refine okD Fn sc_word_between rfl (fun cdv A outer s H E hr => ?_) pl
  unfold t_word_between
  exact (ds_cons (ds_set sc_word_between.nd rfl (.inl rfl) (do_dget (hu_of hr) (do_nm (pv 0)) (do_add (do_nm (pv 1)) (do_nm (pv 2))) (fun _ _ => rfl))) (ds_one (ds_ret (do_sl (do_nm (pv 5)) (dpo_some (do_sub (do_len rfl b_len (do_dget (hu_of hr) (do_nm (pv 0)) (do_nm (pv 1)) (fun _ _ => rfl))) (do_nm (pv 3)))) (dpo_some (do_sub (do_len rfl b_len (do_nm (pv 5))) (do_nm (pv 4))))))))
/-! move_of -/
abbrev s_move_of : Stmt := topS 19
theorem sc_move_of : FnScope ["rows", "state", "turn"] ["rows", "state", "turn"] (defScope s_move_of) := ⟨rfl, rfl, rfl, by decide +kernel, rfl, by decide +kernel, by decide +kernel⟩
def t_move_of : DTS := (sRet (d2 gIx (d2 gIx (dN 0) (dN 1)) (dIf (dB (d2x (gEq id) (dN 2) (dC (S [76])))) (dC (.int 0)) (dC (.int 1)))))
abbrev PL_move_of (F  : DF) : Prop := ∀ (ds : List PyData) (q : PyData → PyData → Prop) (a : Addr), ds.length = 3 → F ds q → (t_move_of) (endsD false a q) (startD false a 3 ds)
theorem ok_move_of {P : Program} {w : World} {K : PySem.W.Frag} {mg : Str → Option Value} {base : Heap} {f : Addr} {fd : FuncData} {F  : DF} (Fn : FunD K "move_of" "move_of" (defArgs s_move_of) (defBody s_move_of) (defScope s_move_of) [] [] f fd)
    (pl : PL_move_of F) : FnOk P w K mg base CX0 1 f fd ["rows", "state", "turn"] (spD false 3 F) := by
  refine okD Fn sc_move_of rfl (fun cdv A outer s H E hr => ?_) pl
  unfold t_move_of
  exact (ds_one (ds_ret (do_ix (do_ix (do_nm (pv 0)) (do_nm (pv 1)) (fun _ _ => rfl)) (do_if (dp_eq hr.units (do_nm (pv 2)) (do_strL [76] (by decide +kernel))) do_int do_int) (fun _ _ => rfl))))
/-! walked_on -/
abbrev s_walked_on : Stmt := topS 20
theorem sc_walked_on : FnScope ["rows", "state", "road", "words", "turn", "word"] ["rows", "state", "road"] (defScope s_walked_on) := ⟨rfl, rfl, rfl, by decide +kernel, rfl, by decide +kernel, by decide +kernel⟩
def t_walked_on (F_move_of : DF) : DTS := (sSeq (sSetF 3 (fLst dNil)) (sSeq (sFor (iAny (dN 2)) (tgN 4) (sSeq (sAsg (dCall 3 F_move_of (dCons (dN 0) (dCons (dN 1) (dCons (dN 4) dNil)))) (tgSeq 2 (tgCons (tgN 5) (tgCons (tgN 1) tgNil)))) (sAppend 3 (dN 5)))) (sRet (dTup (dCons (dM1 gJoin (dC (S [])) (dN 3)) (dCons (dN 1) dNil))))))
abbrev PL_walked_on (F F_move_of : DF) : Prop := ∀ (ds : List PyData) (q : PyData → PyData → Prop) (a : Addr), ds.length = 3 → F ds q → (t_walked_on F_move_of) (endsD false a q) (startD false a 6 ds)
theorem ok_walked_on {P : Program} {w : World} {K : PySem.W.Frag} {mg : Str → Option Value} {base : Heap} {f : Addr} {fd : FuncData} {F F_move_of : DF} (Fn : FunD K "walked_on" "walked_on" (defArgs s_walked_on) (defBody s_walked_on) (defScope s_walked_on) [] [] f fd) (k_move_of : Know P w K mg base "move_of" 1 ["rows", "state", "turn"] false 3 F_move_of)
    (pl : PL_walked_on F F_move_of) : FnOk P w K mg base CX0 2 f fd ["rows", "state", "road"] (spD false 3 F) := by
  obtain ⟨f_move_of, fd_move_of, m_move_of, kp_move_of, bd_move_of, G_move_of⟩ := k_move_of.ex
  refine okD Fn sc_walked_on rfl (fun cdv A outer s H E hr => ?_) pl
  unfold t_walked_on
  exact (ds_cons (ds_setF sc_walked_on.nd rfl (.inl rfl) (dfr_lst da_nil)) (ds_cons (ds_for .never rfl (di_any (do_nm (pv 2))) (dg_name sc_walked_on.nd rfl (.inl rfl)) (ds_cons (ds_asg (do_call G_move_of (hr.mono (by decide)) rfl m_move_of kp_move_of bd_move_of (da_cons (do_nm (pv 0)) (da_cons (do_nm (pv 1)) (da_cons (do_nm (pv 4)) da_nil)))) (dg_seq (n := 2) rfl (dgs_cons (dg_name sc_walked_on.nd rfl (.inl rfl)) (dgs_cons (dg_name sc_walked_on.nd rfl (.inl rfl)) dgs_nil)))) (ds_one (ds_append (pv 3) (do_nm (pv 5)))))) (ds_one (ds_ret (do_tup (da_cons (do_join (do_strL [] (by decide +kernel)) (do_nm (pv 3))) (da_cons (do_nm (pv 1)) da_nil)))))))
/-! run -/
abbrev s_run : Stmt := topS 22
theorem sc_run : FnScope ["machine", "road", "first", "rows", "word", "state"] ["machine", "road"] (defScope s_run) := ⟨rfl, rfl, rfl, by decide +kernel, rfl, by decide +kernel, by decide +kernel⟩
def t_run (F_check_machine F_check_road F_walked_on : DF) : DTS := (sSeq (sDrop (dCall 1 F_check_machine (dCons (dN 0) dNil))) (sSeq (sDrop (dCall 1 F_check_road (dCons (dN 1) dNil))) (sSeq (sAsg (dN 0) (tgSeq 2 (tgCons (tgN 2) (tgCons (tgN 3) tgNil)))) (sSeq (sAsg (dCall 3 F_walked_on (dCons (dN 3) (dCons (dC (.int 0)) (dCons (dN 1) dNil)))) (tgSeq 2 (tgCons (tgN 4) (tgCons (tgN 5) tgNil)))) (sRet (d2 gAdd (d2 gAdd (dN 2) (dN 4)) (d2 gIx (d2 gIx (dN 3) (dN 5)) (dC (.int 2)))))))))
abbrev PL_run (F F_check_machine F_check_road F_walked_on : DF) : Prop := ∀ (ds : List PyData) (q : PyData → PyData → Prop) (a : Addr), ds.length = 2 → F ds q → (t_run F_check_machine F_check_road F_walked_on) (endsD false a q) (startD false a 6 ds)
theorem ok_run {P : Program} {w : World} {K : PySem.W.Frag} {mg : Str → Option Value} {base : Heap} {f : Addr} {fd : FuncData} {F F_check_machine F_check_road F_walked_on : DF} (Fn : FunD K "run" "run" (defArgs s_run) (defBody s_run) (defScope s_run) [] [] f fd) (k_check_machine : Know P w K mg base "check_machine" 3 ["machine"] false 1 F_check_machine) (k_check_road : Know P w K mg base "check_road" 2 ["road"] false 1 F_check_road) (k_walked_on : Know P w K mg base "walked_on" 2 ["rows", "state", "road"] false 3 F_walked_on)
    (pl : PL_run F F_check_machine F_check_road F_walked_on) : FnOk P w K mg base CX0 4 f fd ["machine", "road"] (spD false 2 F) := by
  obtain ⟨f_check_machine, fd_check_machine, m_check_machine, kp_check_machine, bd_check_machine, G_check_machine⟩ := k_check_machine.ex
  obtain ⟨f_check_road, fd_check_road, m_check_road, kp_check_road, bd_check_road, G_check_road⟩ := k_check_road.ex
  obtain ⟨f_walked_on, fd_walked_on, m_walked_on, kp_walked_on, bd_walked_on, G_walked_on⟩ := k_walked_on.ex
  refine okD Fn sc_run rfl (fun cdv A outer s H E hr => ?_) pl
  unfold t_run
  exact (ds_cons (ds_expr (do_call G_check_machine (hr.mono (by decide)) rfl m_check_machine kp_check_machine bd_check_machine (da_cons (do_nm (pv 0)) da_nil))) (ds_cons (ds_expr (do_call G_check_road (hr.mono (by decide)) rfl m_check_road kp_check_road bd_check_road (da_cons (do_nm (pv 1)) da_nil))) (ds_cons (ds_asg (do_nm (pv 0)) (dg_seq (n := 2) rfl (dgs_cons (dg_name sc_run.nd rfl (.inl rfl)) (dgs_cons (dg_name sc_run.nd rfl (.inl rfl)) dgs_nil)))) (ds_cons (ds_asg (do_call G_walked_on (hr.mono (by decide)) rfl m_walked_on kp_walked_on bd_walked_on (da_cons (do_nm (pv 3)) (da_cons do_int (da_cons (do_nm (pv 1)) da_nil)))) (dg_seq (n := 2) rfl (dgs_cons (dg_name sc_run.nd rfl (.inl rfl)) (dgs_cons (dg_name sc_run.nd rfl (.inl rfl)) dgs_nil)))) (ds_one (ds_ret (do_add (do_add (do_nm (pv 2)) (do_nm (pv 4))) (do_ix (do_ix (do_nm (pv 3)) (do_nm (pv 5)) (fun _ _ => rfl)) do_int (fun _ _ => rfl)))))))))
/-! machine_from -/
abbrev s_machine_from : Stmt := topS 35
theorem sc_machine_from : FnScope ["words", "most", "word", "all_roads", "table", "found", "ends", "rows", "machine", "road", "pair", "end", "left", "right", "side"] ["words", "most"] (defScope s_machine_from) := ⟨rfl, rfl, rfl, by decide +kernel, rfl, by decide +kernel, by decide +kernel⟩
def t_machine_from (F_check_number F_check_road F_roads_to F_classes_of F_ends_of F_word_between F_run : DF) : DTS := (sSeq (sDrop (dCall 2 F_check_number (dCons (dN 1) (dCons (dC (.int 1)) dNil)))) (sSeq (sFor (iAny (dN 0)) (tgN 2) (sDrop (dCall 1 F_check_road (dCons (dN 2) dNil)))) (sSeq (sSet 3 (dCall 1 F_roads_to (dCons (d2 gSub (d2 gMul (dC (.int 2)) (dN 1)) (dC (.int 1))) dNil))) (sSeq (sIf (dB (d2x (gEq (!·)) (dB1 (g1 gLen) (dCons (dN 0) dNil)) (dB1 (g1 gLen) (dCons (dN 3) dNil)))) sNever sNext) (sSeq (sSet 4 (dOfF (fDZip (dCons (dN 3) (dCons (dN 0) dNil))))) (sSeq (sSet 5 (dCall 2 F_classes_of (dCons (dN 4) (dCons (dN 1) dNil)))) (sSeq (sSet 6 (dIf (dB (d2x (gIs id) (dN 5) (dC .none))) (dC .none) (dCall 3 F_ends_of (dCons (dN 4) (dCons (d2 gIx (dN 5) (dC (.int 0))) (dCons (d2 gIx (dN 5) (dC (.int 1))) dNil)))))) (sSeq (sIf (dB (d2x (gIs id) (dN 6) (dC .none))) (sRet (dC .none)) sNext) (sSeq (sSetF 7 (fLst dNil)) (sSeq (sFor (iZ3 (dCons (d2 gIx (dN 5) (dC (.int 0))) (dCons (d2 gIx (dN 5) (dC (.int 1))) (dCons (dN 6) dNil)))) (tgSeq 3 (tgCons (tgN 9) (tgCons (tgN 10) (tgCons (tgN 11) tgNil)))) (sSeq (sAsg (dOfF (fLc (iR1 (dCons (dC (.int 2)) dNil)) (tgN 14) dYes (dTup (dCons (dCall 5 F_word_between (dCons (dN 4) (dCons (dN 9) (dCons (d2 gIx (dC (S [76, 82])) (dN 14)) (dCons (dN 11) (dCons (d2 gIx (dN 6) (d2 gIx (dN 10) (dN 14))) dNil)))))) (dCons (d2 gIx (dN 10) (dN 14)) dNil))) [14])) (tgSeq 2 (tgCons (tgN 12) (tgCons (tgN 13) tgNil)))) (sAppend 7 (dTup (dCons (dN 12) (dCons (dN 13) (dCons (dSl (d2 gDGet (dN 4) (dN 9)) (dPt (d2 gSub (dB1 (g1 gLen) (dCons (d2 gDGet (dN 4) (dN 9)) dNil)) (dN 11))) dNoP) dNil))))))) (sSeq (sSet 8 (dTup (dCons (dSl (d2 gDGet (dN 4) (dC (S []))) dNoP (dPt (d2 gSub (dB1 (g1 gLen) (dCons (d2 gDGet (dN 4) (dC (S []))) dNil)) (d2 gIx (dN 6) (dC (.int 0)))))) (dCons (dN 7) dNil)))) (sRet (dIf (dB (d2x (gEq id) (dOfF (fLc (iAny (dN 3)) (tgN 9) dYes (dCall 2 F_run (dCons (dN 8) (dCons (dN 9) dNil))) [9])) (dB1 (g1 gListOf) (dCons (dN 0) dNil)))) (dN 8) (dC .none))))))))))))))
abbrev PL_machine_from (F F_check_number F_check_road F_roads_to F_classes_of F_ends_of F_word_between F_run : DF) : Prop := ∀ (ds : List PyData) (q : PyData → PyData → Prop) (a : Addr), ds.length = 2 → F ds q → (t_machine_from F_check_number F_check_road F_roads_to F_classes_of F_ends_of F_word_between F_run) (endsD false a q) (startD false a 15 ds)
theorem ok_machine_from {P : Program} {w : World} {K : PySem.W.Frag} {mg : Str → Option Value} {base : Heap} {f : Addr} {fd : FuncData} {F F_check_number F_check_road F_roads_to F_classes_of F_ends_of F_word_between F_run : DF} (Fn : FunD K "machine_from" "machine_from" (defArgs s_machine_from) (defBody s_machine_from) (defScope s_machine_from) [] [] f fd) (k_check_number : Know P w K mg base "check_number" 1 ["number", "least"] false 2 F_check_number) (k_check_road : Know P w K mg base "check_road" 2 ["road"] false 1 F_check_road) (k_roads_to : Know P w K mg base "roads_to" 1 ["length"] false 1 F_roads_to) (k_classes_of : Know P w K mg base "classes_of" 3 ["table", "most"] false 2 F_classes_of) (k_ends_of : Know P w K mg base "ends_of" 3 ["table", "roads", "moves"] false 3 F_ends_of) (k_word_between : Know P w K mg base "word_between" 1 ["table", "road", "turn", "end", "later_end"] false 5 F_word_between) (k_run : Know P w K mg base "run" 4 ["machine", "road"] false 2 F_run) (b_len : mg "len" = none) (b_dict : mg "dict" = none) (b_zip : mg "zip" = none) (b_range : mg "range" = none) (b_list : mg "list" = none)
    (pl : PL_machine_from F F_check_number F_check_road F_roads_to F_classes_of F_ends_of F_word_between F_run) : FnOk P w K mg base CX0 5 f fd ["words", "most"] (spD false 2 F) := by
  obtain ⟨f_check_number, fd_check_number, m_check_number, kp_check_number, bd_check_number, G_check_number⟩ := k_check_number.ex
  obtain ⟨f_check_road, fd_check_road, m_check_road, kp_check_road, bd_check_road, G_check_road⟩ := k_check_road.ex
  obtain ⟨f_roads_to, fd_roads_to, m_roads_to, kp_roads_to, bd_roads_to, G_roads_to⟩ := k_roads_to.ex
  obtain ⟨f_classes_of, fd_classes_of, m_classes_of, kp_classes_of, bd_classes_of, G_classes_of⟩ := k_classes_of.ex
  obtain ⟨f_ends_of, fd_ends_of, m_ends_of, kp_ends_of, bd_ends_of, G_ends_of⟩ := k_ends_of.ex
  obtain ⟨f_word_between, fd_word_between, m_word_between, kp_word_between, bd_word_between, G_word_between⟩ := k_word_between.ex
  obtain ⟨f_run, fd_run, m_run, kp_run, bd_run, G_run⟩ := k_run.ex
  refine okD Fn sc_machine_from rfl (fun cdv A outer s H E hr => ?_) pl
  unfold t_machine_from
  exact (ds_cons (ds_expr (do_call G_check_number (hr.mono (by decide)) rfl m_check_number kp_check_number bd_check_number (da_cons (do_nm (pv 1)) (da_cons do_int da_nil)))) (ds_cons (ds_for .never rfl (di_any (do_nm (pv 0))) (dg_name sc_machine_from.nd rfl (.inl rfl)) (ds_one (ds_expr (do_call G_check_road (hr.mono (by decide)) rfl m_check_road kp_check_road bd_check_road (da_cons (do_nm (pv 2)) da_nil))))) (ds_cons (ds_set sc_machine_from.nd rfl (.inl rfl) (do_call G_roads_to (hr.mono (by decide)) rfl m_roads_to kp_roads_to bd_roads_to (da_cons (do_sub (do_mul do_int (do_nm (pv 1))) do_int) da_nil))) (ds_cons (ds_if (dp_ne hr.units (do_len rfl b_len (do_nm (pv 0))) (do_len rfl b_len (do_nm (pv 3)))) (ds_one ds_never) ds_nil) (ds_cons (ds_set sc_machine_from.nd rfl (.inr rfl) (do_f (dfr_dzip rfl b_dict rfl b_zip rfl (da_cons (do_nm (pv 3)) (da_cons (do_nm (pv 0)) da_nil))))) (ds_cons (ds_set sc_machine_from.nd rfl (.inl rfl) (do_call G_classes_of (hr.mono (by decide)) rfl m_classes_of kp_classes_of bd_classes_of (da_cons (do_nm (pv 4)) (da_cons (do_nm (pv 1)) da_nil)))) (ds_cons (ds_set sc_machine_from.nd rfl (.inr rfl) (do_if (dp_is (do_nm (pv 5)) do_non) do_non (do_call G_ends_of (hr.mono (by decide)) rfl m_ends_of kp_ends_of bd_ends_of (da_cons (do_nm (pv 4)) (da_cons (do_ix (do_nm (pv 5)) do_int (fun _ _ => rfl)) (da_cons (do_ix (do_nm (pv 5)) do_int (fun _ _ => rfl)) da_nil)))))) (ds_cons (ds_if (dp_is (do_nm (pv 6)) do_non) (ds_one (ds_ret do_non)) ds_nil) (ds_cons (ds_setF sc_machine_from.nd rfl (.inl rfl) (dfr_lst da_nil)) (ds_cons (ds_for .never rfl (di_zip3 rfl b_zip (da_cons (do_ix (do_nm (pv 5)) do_int (fun _ _ => rfl)) (da_cons (do_ix (do_nm (pv 5)) do_int (fun _ _ => rfl)) (da_cons (do_nm (pv 6)) da_nil)))) (dg_seq (n := 3) rfl (dgs_cons (dg_name sc_machine_from.nd rfl (.inr rfl)) (dgs_cons (dg_name sc_machine_from.nd rfl (.inr rfl)) (dgs_cons (dg_name sc_machine_from.nd rfl (.inr rfl)) dgs_nil)))) (ds_cons (ds_asg (do_f (dfr_lc (own := [("side", 14)]) (by decide) rfl sc_machine_from.nd (di_range1 rfl b_range (da_cons do_int da_nil)) (blkOk_by (N := ["words", "most", "word", "all_roads", "table", "found", "ends", "rows", "machine", "road", "pair", "end", "left", "right", "side"]) (sc := defScope s_machine_from) (by decide +kernel)) (fun _ _ _ _ _ => (dg_name sc_machine_from.nd rfl (.inl rfl))) (fun _ _ _ _ _ => dts_nil) (fun _ _ _ _ _ => (do_tup (da_cons (do_call G_word_between (hr.mono (by decide)) rfl m_word_between kp_word_between bd_word_between (da_cons (do_nm (pv 4)) (da_cons (do_nm (pv 9)) (da_cons (do_ix (do_strL [76, 82] (by decide +kernel)) (do_nm (pv 14)) (fun _ _ => rfl)) (da_cons (do_nm (pv 11)) (da_cons (do_ix (do_nm (pv 6)) (do_ix (do_nm (pv 10)) (do_nm (pv 14)) (fun _ _ => rfl)) (fun _ _ => rfl)) da_nil)))))) (da_cons (do_ix (do_nm (pv 10)) (do_nm (pv 14)) (fun _ _ => rfl)) da_nil)))))) (dg_seq (n := 2) rfl (dgs_cons (dg_name sc_machine_from.nd rfl (.inl rfl)) (dgs_cons (dg_name sc_machine_from.nd rfl (.inl rfl)) dgs_nil)))) (ds_one (ds_append (pv 7) (do_tup (da_cons (do_nm (pv 12)) (da_cons (do_nm (pv 13)) (da_cons (do_sl (do_dget (hu_of hr) (do_nm (pv 4)) (do_nm (pv 9)) (fun _ _ => rfl)) (dpo_some (do_sub (do_len rfl b_len (do_dget (hu_of hr) (do_nm (pv 4)) (do_nm (pv 9)) (fun _ _ => rfl))) (do_nm (pv 11)))) dpo_none) da_nil)))))))) (ds_cons (ds_set sc_machine_from.nd rfl (.inr rfl) (do_tup (da_cons (do_sl (do_dget (hu_of hr) (do_nm (pv 4)) (do_strL [] (by decide +kernel)) (fun _ _ => rfl)) dpo_none (dpo_some (do_sub (do_len rfl b_len (do_dget (hu_of hr) (do_nm (pv 4)) (do_strL [] (by decide +kernel)) (fun _ _ => rfl))) (do_ix (do_nm (pv 6)) do_int (fun _ _ => rfl))))) (da_cons (do_nm (pv 7)) da_nil)))) (ds_one (ds_ret (do_if (dp_eq hr.units (do_f (dfr_lc (own := [("road", 9)]) (by decide) rfl sc_machine_from.nd (di_any (do_nm (pv 3))) (blkOk_by (N := ["words", "most", "word", "all_roads", "table", "found", "ends", "rows", "machine", "road", "pair", "end", "left", "right", "side"]) (sc := defScope s_machine_from) (by decide +kernel)) (fun _ _ _ _ _ => (dg_name sc_machine_from.nd rfl (.inl rfl))) (fun _ _ _ _ _ => dts_nil) (fun _ _ _ _ _ => (do_call G_run (hr.mono (by decide)) rfl m_run kp_run bd_run (da_cons (do_nm (pv 8)) (da_cons (do_nm (pv 9)) da_nil)))))) (do_listOf rfl b_list (do_nm (pv 0)))) (do_nm (pv 8)) do_non))))))))))))))
/-! table_of -/
abbrev s_table_of : Stmt := topS 29
theorem sc_table_of : FnScope ["machine", "length", "road"] ["machine", "length"] (defScope s_table_of) := ⟨rfl, rfl, rfl, by decide +kernel, rfl, by decide +kernel, by decide +kernel⟩
def t_table_of (F_check_machine F_check_number F_roads_to F_run : DF) : DTS := (sSeq (sDrop (dCall 1 F_check_machine (dCons (dN 0) dNil))) (sSeq (sDrop (dCall 2 F_check_number (dCons (dN 1) (dCons (dC (.int 0)) dNil)))) (sRet (dOfF (fLc (iAny (dCall 1 F_roads_to (dCons (dN 1) dNil))) (tgN 2) dYes (dCall 2 F_run (dCons (dN 0) (dCons (dN 2) dNil))) [2])))))
abbrev PL_table_of (F F_check_machine F_check_number F_roads_to F_run : DF) : Prop := ∀ (ds : List PyData) (q : PyData → PyData → Prop) (a : Addr), ds.length = 2 → F ds q → (t_table_of F_check_machine F_check_number F_roads_to F_run) (endsD false a q) (startD false a 3 ds)
theorem ok_table_of {P : Program} {w : World} {K : PySem.W.Frag} {mg : Str → Option Value} {base : Heap} {f : Addr} {fd : FuncData} {F F_check_machine F_check_number F_roads_to F_run : DF} (Fn : FunD K "table_of" "table_of" (defArgs s_table_of) (defBody s_table_of) (defScope s_table_of) [] [] f fd) (k_check_machine : Know P w K mg base "check_machine" 3 ["machine"] false 1 F_check_machine) (k_check_number : Know P w K mg base "check_number" 1 ["number", "least"] false 2 F_check_number) (k_roads_to : Know P w K mg base "roads_to" 1 ["length"] false 1 F_roads_to) (k_run : Know P w K mg base "run" 4 ["machine", "road"] false 2 F_run)
    (pl : PL_table_of F F_check_machine F_check_number F_roads_to F_run) : FnOk P w K mg base CX0 5 f fd ["machine", "length"] (spD false 2 F) := by
  obtain ⟨f_check_machine, fd_check_machine, m_check_machine, kp_check_machine, bd_check_machine, G_check_machine⟩ := k_check_machine.ex
  obtain ⟨f_check_number, fd_check_number, m_check_number, kp_check_number, bd_check_number, G_check_number⟩ := k_check_number.ex
  obtain ⟨f_roads_to, fd_roads_to, m_roads_to, kp_roads_to, bd_roads_to, G_roads_to⟩ := k_roads_to.ex
  obtain ⟨f_run, fd_run, m_run, kp_run, bd_run, G_run⟩ := k_run.ex
  refine okD Fn sc_table_of rfl (fun cdv A outer s H E hr => ?_) pl
  unfold t_table_of
  exact (ds_cons (ds_expr (do_call G_check_machine (hr.mono (by decide)) rfl m_check_machine kp_check_machine bd_check_machine (da_cons (do_nm (pv 0)) da_nil))) (ds_cons (ds_expr (do_call G_check_number (hr.mono (by decide)) rfl m_check_number kp_check_number bd_check_number (da_cons (do_nm (pv 1)) (da_cons do_int da_nil)))) (ds_one (ds_ret (do_f (dfr_lc (own := [("road", 2)]) (by decide) rfl sc_table_of.nd (di_any (do_call G_roads_to (hr.mono (by decide)) rfl m_roads_to kp_roads_to bd_roads_to (da_cons (do_nm (pv 1)) da_nil))) (blkOk_by (N := ["machine", "length", "road"]) (sc := defScope s_table_of) (by decide +kernel)) (fun _ _ _ _ _ => (dg_name sc_table_of.nd rfl (.inl rfl))) (fun _ _ _ _ _ => dts_nil) (fun _ _ _ _ _ => (do_call G_run (hr.mono (by decide)) rfl m_run kp_run bd_run (da_cons (do_nm (pv 0)) (da_cons (do_nm (pv 2)) da_nil))))))))))
/-! joined -/
abbrev s_joined : Stmt := topS 24
theorem sc_joined : FnScope ["one", "other", "first", "rows", "head", "lines", "word", "place", "found", "numbers", "pairs", "moves", "here", "there", "written", "goal", "last", "twice"] ["one", "other"] (defScope s_joined) := ⟨rfl, rfl, rfl, by decide +kernel, rfl, by decide +kernel, by decide +kernel⟩
def t_joined (F_check_machine F_walked_on F_least_form : DF) : DTS := (sSeq (sDrop (dCall 1 F_check_machine (dCons (dN 0) dNil))) (sSeq (sDrop (dCall 1 F_check_machine (dCons (dN 1) dNil))) (sSeq (sAsg (dN 0) (tgSeq 2 (tgCons (tgN 2) (tgCons (tgN 3) tgNil)))) (sSeq (sAsg (dN 1) (tgSeq 2 (tgCons (tgN 4) (tgCons (tgN 5) tgNil)))) (sSeq (sAsg (dCall 3 F_walked_on (dCons (dN 5) (dCons (dC (.int 0)) (dCons (dN 2) dNil)))) (tgSeq 2 (tgCons (tgN 6) (tgCons (tgN 7) tgNil)))) (sSeq (sPar3 8 9 10 (afF (fLst (dCons (dTup (dCons (dC (.int 0)) (dCons (dN 7) dNil))) dNil)) (afF (fT1 (dTup (dCons (dC (.int 0)) (dCons (dN 7) dNil))) (dC (.int 0))) (afF (fLst dNil) afNil)))) (sSeq (sWhile (dB (d2 gLt (dB1 (g1 gLen) (dCons (dN 10) dNil)) (dB1 (g1 gLen) (dCons (dN 8) dNil)))) (sSeq (sAsg (d2 gIx (dN 8) (dB1 (g1 gLen) (dCons (dN 10) dNil))) (tgSeq 2 (tgCons (tgN 12) (tgCons (tgN 13) tgNil)))) (sSeq (sSetF 11 (fLst dNil)) (sSeq (sFor (iAny (dSl (d2 gIx (dN 3) (dN 12)) dNoP (dPt (dC (.int 2))))) (tgSeq 2 (tgCons (tgN 14) (tgCons (tgN 15) tgNil))) (sSeq (sAsg (dCall 3 F_walked_on (dCons (dN 5) (dCons (dN 13) (dCons (dN 14) dNil)))) (tgSeq 2 (tgCons (tgN 17) (tgCons (tgN 7) tgNil)))) (sSeq (sIf (dB (d2 (gTIn (!·)) (dTup (dCons (dN 15) (dCons (dN 7) dNil))) (dN 9))) (sSeq (sTPut 9 (dTup (dCons (dN 15) (dCons (dN 7) dNil))) (dB1 (g1 gLen) (dCons (dN 8) dNil))) (sAppend 8 (dTup (dCons (dN 15) (dCons (dN 7) dNil))))) sNext) (sAppend 11 (dTup (dCons (dN 17) (dCons (d2 gTGet (dN 9) (dTup (dCons (dN 15) (dCons (dN 7) dNil)))) dNil))))))) (sSeq (sAsg (dCall 3 F_walked_on (dCons (dN 5) (dCons (dN 13) (dCons (d2 gIx (d2 gIx (dN 3) (dN 12)) (dC (.int 2))) dNil)))) (tgSeq 2 (tgCons (tgN 16) (tgCons (tgN 7) tgNil)))) (sAppend 10 (dTup (dCons (d2 gIx (dN 11) (dC (.int 0))) (dCons (d2 gIx (dN 11) (dC (.int 1))) (dCons (d2 gAdd (dN 16) (d2 gIx (d2 gIx (dN 5) (dN 7)) (dC (.int 2)))) dNil)))))))))) (sRet (dCallT 2 F_least_form (dCons (d2 gAdd (dN 4) (dN 6)) (dCons (dN 10) dNil)))))))))))
abbrev PL_joined (F F_check_machine F_walked_on F_least_form : DF) : Prop := ∀ (ds : List PyData) (q : PyData → PyData → Prop) (a : Addr), ds.length = 2 → F ds q → (t_joined F_check_machine F_walked_on F_least_form) (endsD false a q) (startD false a 18 ds)
theorem ok_joined {P : Program} {w : World} {K : PySem.W.Frag} {mg : Str → Option Value} {base : Heap} {f : Addr} {fd : FuncData} {F F_check_machine F_walked_on F_least_form : DF} (Fn : FunD K "joined" "joined" (defArgs s_joined) (defBody s_joined) (defScope s_joined) [] [] f fd) (k_check_machine : Know P w K mg base "check_machine" 3 ["machine"] false 1 F_check_machine) (k_walked_on : Know P w K mg base "walked_on" 2 ["rows", "state", "road"] false 3 F_walked_on) (k_least_form : Know P w K mg base "least_form" 3 ["first", "rows"] false 2 F_least_form) (b_len : mg "len" = none)
    (pl : PL_joined F F_check_machine F_walked_on F_least_form) : FnOk P w K mg base CX0 4 f fd ["one", "other"] (spD false 2 F) := by
  obtain ⟨f_check_machine, fd_check_machine, m_check_machine, kp_check_machine, bd_check_machine, G_check_machine⟩ := k_check_machine.ex
  obtain ⟨f_walked_on, fd_walked_on, m_walked_on, kp_walked_on, bd_walked_on, G_walked_on⟩ := k_walked_on.ex
  obtain ⟨f_least_form, fd_least_form, m_least_form, kp_least_form, bd_least_form, G_least_form⟩ := k_least_form.ex
  refine okD Fn sc_joined rfl (fun cdv A outer s H E hr => ?_) pl
  unfold t_joined
  exact (ds_cons (ds_expr (do_call G_check_machine (hr.mono (by decide)) rfl m_check_machine kp_check_machine bd_check_machine (da_cons (do_nm (pv 0)) da_nil))) (ds_cons (ds_expr (do_call G_check_machine (hr.mono (by decide)) rfl m_check_machine kp_check_machine bd_check_machine (da_cons (do_nm (pv 1)) da_nil))) (ds_cons (ds_asg (do_nm (pv 0)) (dg_seq (n := 2) rfl (dgs_cons (dg_name sc_joined.nd rfl (.inl rfl)) (dgs_cons (dg_name sc_joined.nd rfl (.inl rfl)) dgs_nil)))) (ds_cons (ds_asg (do_nm (pv 1)) (dg_seq (n := 2) rfl (dgs_cons (dg_name sc_joined.nd rfl (.inl rfl)) (dgs_cons (dg_name sc_joined.nd rfl (.inl rfl)) dgs_nil)))) (ds_cons (ds_asg (do_call G_walked_on (hr.mono (by decide)) rfl m_walked_on kp_walked_on bd_walked_on (da_cons (do_nm (pv 5)) (da_cons do_int (da_cons (do_nm (pv 2)) da_nil)))) (dg_seq (n := 2) rfl (dgs_cons (dg_name sc_joined.nd rfl (.inl rfl)) (dgs_cons (dg_name sc_joined.nd rfl (.inl rfl)) dgs_nil)))) (ds_cons (ds_par3 rfl sc_joined.nd rfl rfl rfl (by decide) (by decide) (by decide) rfl rfl rfl (daf_f (dfr_lst (da_cons (do_tup (da_cons do_int (da_cons (do_nm (pv 7)) da_nil))) da_nil)) (daf_f (dfr_t1 (hu_of hr) (do_tup (da_cons do_int (da_cons (do_nm (pv 7)) da_nil))) do_int) (daf_f (dfr_lst da_nil) daf_nil))) rfl) (ds_cons (ds_while .never (dp_lt (do_len rfl b_len (do_nm (pv 10))) (do_len rfl b_len (do_nm (pv 8)))) (ds_cons (ds_asg (do_ix (do_nm (pv 8)) (do_len rfl b_len (do_nm (pv 10))) (fun _ _ => rfl)) (dg_seq (n := 2) rfl (dgs_cons (dg_name sc_joined.nd rfl (.inl rfl)) (dgs_cons (dg_name sc_joined.nd rfl (.inl rfl)) dgs_nil)))) (ds_cons (ds_setF sc_joined.nd rfl (.inl rfl) (dfr_lst da_nil)) (ds_cons (ds_for .never rfl (di_any (do_sl (do_ix (do_nm (pv 3)) (do_nm (pv 12)) (fun _ _ => rfl)) dpo_none (dpo_some do_int))) (dg_seq (n := 2) rfl (dgs_cons (dg_name sc_joined.nd rfl (.inl rfl)) (dgs_cons (dg_name sc_joined.nd rfl (.inl rfl)) dgs_nil))) (ds_cons (ds_asg (do_call G_walked_on (hr.mono (by decide)) rfl m_walked_on kp_walked_on bd_walked_on (da_cons (do_nm (pv 5)) (da_cons (do_nm (pv 13)) (da_cons (do_nm (pv 14)) da_nil)))) (dg_seq (n := 2) rfl (dgs_cons (dg_name sc_joined.nd rfl (.inl rfl)) (dgs_cons (dg_name sc_joined.nd rfl (.inl rfl)) dgs_nil)))) (ds_cons (ds_if (dp_tnotin (hu_of hr) (do_tup (da_cons (do_nm (pv 15)) (da_cons (do_nm (pv 7)) da_nil))) (do_nm (pv 9))) (ds_cons (ds_tput (hu_of hr) (pv 9) (do_tup (da_cons (do_nm (pv 15)) (da_cons (do_nm (pv 7)) da_nil))) (do_len rfl b_len (do_nm (pv 8)))) (ds_one (ds_append (pv 8) (do_tup (da_cons (do_nm (pv 15)) (da_cons (do_nm (pv 7)) da_nil)))))) ds_nil) (ds_one (ds_append (pv 11) (do_tup (da_cons (do_nm (pv 17)) (da_cons (do_tget (hu_of hr) (do_nm (pv 9)) (do_tup (da_cons (do_nm (pv 15)) (da_cons (do_nm (pv 7)) da_nil))) (fun _ _ => rfl)) da_nil)))))))) (ds_cons (ds_asg (do_call G_walked_on (hr.mono (by decide)) rfl m_walked_on kp_walked_on bd_walked_on (da_cons (do_nm (pv 5)) (da_cons (do_nm (pv 13)) (da_cons (do_ix (do_ix (do_nm (pv 3)) (do_nm (pv 12)) (fun _ _ => rfl)) do_int (fun _ _ => rfl)) da_nil)))) (dg_seq (n := 2) rfl (dgs_cons (dg_name sc_joined.nd rfl (.inl rfl)) (dgs_cons (dg_name sc_joined.nd rfl (.inl rfl)) dgs_nil)))) (ds_one (ds_append (pv 10) (do_tup (da_cons (do_ix (do_nm (pv 11)) do_int (fun _ _ => rfl)) (da_cons (do_ix (do_nm (pv 11)) do_int (fun _ _ => rfl)) (da_cons (do_add (do_nm (pv 16)) (do_ix (do_ix (do_nm (pv 5)) (do_nm (pv 7)) (fun _ _ => rfl)) do_int (fun _ _ => rfl))) da_nil))))))))))) (ds_one (ds_ret (do_callT G_least_form (hr.mono (by decide)) rfl m_least_form kp_least_form bd_least_form (da_cons (do_add (do_nm (pv 4)) (do_nm (pv 6))) (da_cons (do_nm (pv 10)) da_nil))))))))))))
/-! _law_coin -/
abbrev s_law_coin : Stmt := topS 42
theorem sc_law_coin : FnScope ["purse", "many", "stirred", "drawn"] ["purse", "many"] (defScope s_law_coin) := ⟨rfl, rfl, rfl, by decide +kernel, rfl, by decide +kernel, by decide +kernel⟩
def t_law_coin : DTS := (sSeq (sIf (dB (d2 gGt (d2 gIx (dN 0) (dC (.int 0))) (dC (.int 0)))) (sSeq (sSet 3 (d2 gMod (dB1 (g1 gInt) (dCons (d2 gIx (dN 0) (dC (.int 0))) dNil)) (dN 1))) (sSeq (sSetIx 0 (dC (.int 0)) (d2 gDiv (d2 gIx (dN 0) (dC (.int 0))) (dN 1))) (sRet (dN 3)))) sNext) (sSeq (sSetIx 0 (dC (.int 2)) (d2 gAdd (d2 gIx (dN 0) (dC (.int 2))) (dC (.int 1)))) (sSeq (sSet 2 (d2 gMod (d2 gPow (dB1 (g1 gInt) (dCons (d2 gAdd (d2 gIx (dN 0) (dC (.int 1))) (d2 gMul (dC (.int 2038074743)) (d2 gIx (dN 0) (dC (.int 2))))) dNil)) (dC (.int 3))) (d2 gAdd (d2 gPow (dC (.int 10)) (dC (.int 25))) (dC (.int 13))))) (sSeq (sSet 2 (d2 gMod (d2 gPow (dB1 (g1 gInt) (dCons (d2 gAdd (dN 2) (d2 gMul (dC (.int 982451653)) (d2 gIx (dN 0) (dC (.int 2))))) dNil)) (dC (.int 2))) (d2 gAdd (d2 gPow (dC (.int 10)) (dC (.int 24))) (dC (.int 7))))) (sRet (d2 gMod (dB1 (g1 gInt) (dCons (d2 gDiv (dN 2) (dC (.int 1024))) dNil)) (dN 1)))))))
abbrev PL_law_coin (F  : DF) : Prop := ∀ (ds : List PyData) (q : PyData → PyData → Prop) (a : Addr), ds.length = 2 → F ds q → (t_law_coin) (endsD true a q) (startD true a 4 ds)
theorem ok_law_coin {P : Program} {w : World} {K : PySem.W.Frag} {mg : Str → Option Value} {base : Heap} {f : Addr} {fd : FuncData} {F  : DF} (Fn : FunD K "_law_coin" "_law_coin" (defArgs s_law_coin) (defBody s_law_coin) (defScope s_law_coin) [] [] f fd) (b_int : mg "int" = none)
    (pl : PL_law_coin F) : FnOk P w K mg base CX0 1 f fd ["purse", "many"] (spD true 2 F) := by
  refine okD Fn sc_law_coin rfl (fun cdv A outer s H E hr => ?_) pl
  unfold t_law_coin
  exact (ds_cons (ds_if (dp_gt (do_ix (do_nm (pv 0)) do_int (fun _ _ => rfl)) do_int) (ds_cons (ds_set sc_law_coin.nd rfl (.inl rfl) (do_mod (do_int1 rfl b_int (do_ix (do_nm (pv 0)) do_int (fun _ _ => rfl))) (do_nm (pv 1)))) (ds_cons (ds_setIx (pv 0) do_int (do_fdiv (do_ix (do_nm (pv 0)) do_int (fun _ _ => rfl)) (do_nm (pv 1)))) (ds_one (ds_ret (do_nm (pv 3)))))) ds_nil) (ds_cons (ds_setIx (pv 0) do_int (do_add (do_ix (do_nm (pv 0)) do_int (fun _ _ => rfl)) do_int)) (ds_cons (ds_set sc_law_coin.nd rfl (.inl rfl) (do_mod (do_pow (do_int1 rfl b_int (do_add (do_ix (do_nm (pv 0)) do_int (fun _ _ => rfl)) (do_mul do_int (do_ix (do_nm (pv 0)) do_int (fun _ _ => rfl))))) do_int) (do_add (do_pow do_int do_int) do_int))) (ds_cons (ds_set sc_law_coin.nd rfl (.inl rfl) (do_mod (do_pow (do_int1 rfl b_int (do_add (do_nm (pv 2)) (do_mul do_int (do_ix (do_nm (pv 0)) do_int (fun _ _ => rfl))))) do_int) (do_add (do_pow do_int do_int) do_int))) (ds_one (ds_ret (do_mod (do_int1 rfl b_int (do_fdiv (do_nm (pv 2)) do_int)) (do_nm (pv 1)))))))))
/-! _law_bk_way -/
abbrev s_law_bk_way : Stmt := topS 43
theorem sc_law_bk_way : FnScope ["purse", "top", "found", "turn"] ["purse", "top"] (defScope s_law_bk_way) := ⟨rfl, rfl, rfl, by decide +kernel, rfl, by decide +kernel, by decide +kernel⟩
def t_law_bk_way (F_law_coin : DF) : DTS := (sSeq (sSet 2 (dC (S []))) (sSeq (sFor (iR1 (dCons (dCallM 2 F_law_coin (dCons (dN 0) (dCons (d2 gAdd (dN 1) (dC (.int 1))) dNil))) dNil)) (tgN 3) (sSet 2 (d2 gAdd (dN 2) (d2 gIx (dC (S [76, 82])) (dCallM 2 F_law_coin (dCons (dN 0) (dCons (dC (.int 2)) dNil))))))) (sRet (dN 2))))
abbrev PL_law_bk_way (F F_law_coin : DF) : Prop := ∀ (ds : List PyData) (q : PyData → PyData → Prop) (a : Addr), ds.length = 2 → F ds q → (t_law_bk_way F_law_coin) (endsD true a q) (startD true a 4 ds)
theorem ok_law_bk_way {P : Program} {w : World} {K : PySem.W.Frag} {mg : Str → Option Value} {base : Heap} {f : Addr} {fd : FuncData} {F F_law_coin : DF} (Fn : FunD K "_law_bk_way" "_law_bk_way" (defArgs s_law_bk_way) (defBody s_law_bk_way) (defScope s_law_bk_way) [] [] f fd) (k_law_coin : Know P w K mg base "_law_coin" 1 ["purse", "many"] true 2 F_law_coin) (b_range : mg "range" = none)
    (pl : PL_law_bk_way F F_law_coin) : FnOk P w K mg base CX0 2 f fd ["purse", "top"] (spD true 2 F) := by
  obtain ⟨f_law_coin, fd_law_coin, m_law_coin, kp_law_coin, bd_law_coin, G_law_coin⟩ := k_law_coin.ex
  refine okD Fn sc_law_bk_way rfl (fun cdv A outer s H E hr => ?_) pl
  unfold t_law_bk_way
  exact (ds_cons (ds_set sc_law_bk_way.nd rfl (.inl rfl) (do_strL [] (by decide +kernel))) (ds_cons (ds_for .never rfl (di_range1 rfl b_range (da_cons (do_callM G_law_coin (hr.mono (by decide)) rfl m_law_coin kp_law_coin bd_law_coin (da_cons (do_nm (pv 0)) (da_cons (do_add (do_nm (pv 1)) do_int) da_nil))) da_nil)) (dg_name sc_law_bk_way.nd rfl (.inl rfl)) (ds_one (ds_set sc_law_bk_way.nd rfl (.inl rfl) (do_add (do_nm (pv 2)) (do_ix (do_strL [76, 82] (by decide +kernel)) (do_callM G_law_coin (hr.mono (by decide)) rfl m_law_coin kp_law_coin bd_law_coin (da_cons (do_nm (pv 0)) (da_cons do_int da_nil))) (fun _ _ => rfl)))))) (ds_one (ds_ret (do_nm (pv 2))))))
/-! _law_bk_shape -/
abbrev s_law_bk_shape : Stmt := topS 44
theorem sc_law_bk_shape : FnScope ["purse", "many", "top", "rows", "state", "left", "right"] ["purse", "many", "top"] (defScope s_law_bk_shape) := ⟨rfl, rfl, rfl, by decide +kernel, rfl, by decide +kernel, by decide +kernel⟩
def t_law_bk_shape (F_law_bk_way F_law_coin : DF) : DTS := (sSeq (sSetF 3 (fLst dNil)) (sSeq (sFor (iR1 (dCons (dN 1) dNil)) (tgN 4) (sSeq (sSet 5 (dTup (dCons (dCallM 2 F_law_bk_way (dCons (dN 0) (dCons (dN 2) dNil))) (dCons (dCallM 2 F_law_coin (dCons (dN 0) (dCons (dN 1) dNil))) dNil)))) (sSeq (sSet 6 (dTup (dCons (dCallM 2 F_law_bk_way (dCons (dN 0) (dCons (dN 2) dNil))) (dCons (dCallM 2 F_law_coin (dCons (dN 0) (dCons (dN 1) dNil))) dNil)))) (sAppend 3 (dTup (dCons (dN 5) (dCons (dN 6) (dCons (dCallM 2 F_law_bk_way (dCons (dN 0) (dCons (dN 2) dNil))) dNil)))))))) (sRet (dTup (dCons (dCallM 2 F_law_bk_way (dCons (dN 0) (dCons (dN 2) dNil))) (dCons (dN 3) dNil))))))
abbrev PL_law_bk_shape (F F_law_bk_way F_law_coin : DF) : Prop := ∀ (ds : List PyData) (q : PyData → PyData → Prop) (a : Addr), ds.length = 3 → F ds q → (t_law_bk_shape F_law_bk_way F_law_coin) (endsD true a q) (startD true a 7 ds)
theorem ok_law_bk_shape {P : Program} {w : World} {K : PySem.W.Frag} {mg : Str → Option Value} {base : Heap} {f : Addr} {fd : FuncData} {F F_law_bk_way F_law_coin : DF} (Fn : FunD K "_law_bk_shape" "_law_bk_shape" (defArgs s_law_bk_shape) (defBody s_law_bk_shape) (defScope s_law_bk_shape) [] [] f fd) (k_law_bk_way : Know P w K mg base "_law_bk_way" 2 ["purse", "top"] true 2 F_law_bk_way) (k_law_coin : Know P w K mg base "_law_coin" 1 ["purse", "many"] true 2 F_law_coin) (b_range : mg "range" = none)
    (pl : PL_law_bk_shape F F_law_bk_way F_law_coin) : FnOk P w K mg base CX0 3 f fd ["purse", "many", "top"] (spD true 3 F) := by
  obtain ⟨f_law_bk_way, fd_law_bk_way, m_law_bk_way, kp_law_bk_way, bd_law_bk_way, G_law_bk_way⟩ := k_law_bk_way.ex
  obtain ⟨f_law_coin, fd_law_coin, m_law_coin, kp_law_coin, bd_law_coin, G_law_coin⟩ := k_law_coin.ex
  refine okD Fn sc_law_bk_shape rfl (fun cdv A outer s H E hr => ?_) pl
  unfold t_law_bk_shape
  exact (ds_cons (ds_setF sc_law_bk_shape.nd rfl (.inl rfl) (dfr_lst da_nil)) (ds_cons (ds_for .never rfl (di_range1 rfl b_range (da_cons (do_nm (pv 1)) da_nil)) (dg_name sc_law_bk_shape.nd rfl (.inl rfl)) (ds_cons (ds_set sc_law_bk_shape.nd rfl (.inl rfl) (do_tup (da_cons (do_callM G_law_bk_way (hr.mono (by decide)) rfl m_law_bk_way kp_law_bk_way bd_law_bk_way (da_cons (do_nm (pv 0)) (da_cons (do_nm (pv 2)) da_nil))) (da_cons (do_callM G_law_coin (hr.mono (by decide)) rfl m_law_coin kp_law_coin bd_law_coin (da_cons (do_nm (pv 0)) (da_cons (do_nm (pv 1)) da_nil))) da_nil)))) (ds_cons (ds_set sc_law_bk_shape.nd rfl (.inl rfl) (do_tup (da_cons (do_callM G_law_bk_way (hr.mono (by decide)) rfl m_law_bk_way kp_law_bk_way bd_law_bk_way (da_cons (do_nm (pv 0)) (da_cons (do_nm (pv 2)) da_nil))) (da_cons (do_callM G_law_coin (hr.mono (by decide)) rfl m_law_coin kp_law_coin bd_law_coin (da_cons (do_nm (pv 0)) (da_cons (do_nm (pv 1)) da_nil))) da_nil)))) (ds_one (ds_append (pv 3) (do_tup (da_cons (do_nm (pv 5)) (da_cons (do_nm (pv 6)) (da_cons (do_callM G_law_bk_way (hr.mono (by decide)) rfl m_law_bk_way kp_law_bk_way bd_law_bk_way (da_cons (do_nm (pv 0)) (da_cons (do_nm (pv 2)) da_nil))) da_nil))))))))) (ds_one (ds_ret (do_tup (da_cons (do_callM G_law_bk_way (hr.mono (by decide)) rfl m_law_bk_way kp_law_bk_way bd_law_bk_way (da_cons (do_nm (pv 0)) (da_cons (do_nm (pv 2)) da_nil))) (da_cons (do_nm (pv 3)) da_nil)))))))
/-! _law_bk_near -/
abbrev s_law_bk_near : Stmt := topS 45
theorem sc_law_bk_near : FnScope ["purse", "shape", "top", "turn", "first", "rows", "state", "side", "pick", "row"] ["purse", "shape", "top"] (defScope s_law_bk_near) := ⟨rfl, rfl, rfl, by decide +kernel, rfl, by decide +kernel, by decide +kernel⟩
def t_law_bk_near (F_law_coin F_law_bk_way : DF) : DTS := (sSeq (sPar 4 5 (afV (d2 gIx (dN 1) (dC (.int 0))) (afG (fGr (iAny (d2 gIx (dN 1) (dC (.int 1)))) (tgN 9) (fListOf (dN 9)) [9]) afNil))) (sSeq (sFor (iR1 (dCons (dCallM 2 F_law_coin (dCons (dN 0) (dCons (dC (.int 3)) dNil))) dNil)) (tgN 3) (sSeq (sPar3 6 7 8 (afV (dCallM 2 F_law_coin (dCons (dN 0) (dCons (dLenG 5) dNil))) (afV (dCallM 2 F_law_coin (dCons (dN 0) (dCons (dC (.int 2)) dNil))) (afV (dCallM 2 F_law_coin (dCons (dN 0) (dCons (dC (.int 4)) dNil))) afNil)))) (sIf (dB (d2x (gEq id) (dN 8) (dC (.int 0)))) (sSetIxG 5 (dN 6) (dC (.int 2)) (dCallM 2 F_law_bk_way (dCons (dN 0) (dCons (dN 2) dNil)))) (sIf (dB (d2x (gEq id) (dN 8) (dC (.int 1)))) (sSetIxG 5 (dN 6) (dN 7) (dTup (dCons (dCallM 2 F_law_bk_way (dCons (dN 0) (dCons (dN 2) dNil))) (dCons (d2 gIx (dIxG 5 (dN 6) (dN 7)) (dC (.int 1))) dNil)))) (sIf (dB (d2x (gEq id) (dN 8) (dC (.int 2)))) (sSetIxG 5 (dN 6) (dN 7) (dTup (dCons (d2 gIx (dIxG 5 (dN 6) (dN 7)) (dC (.int 0))) (dCons (dCallM 2 F_law_coin (dCons (dN 0) (dCons (dLenG 5) dNil))) dNil)))) (sSet 4 (dCallM 2 F_law_bk_way (dCons (dN 0) (dCons (dN 2) dNil))))))))) (sRet (dTup (dCons (dN 4) (dCons (dOfF (fLc (iAny (dN 5)) (tgN 9) dYes (dB1 (g1 gTupOf) (dCons (dN 9) dNil)) [9])) dNil))))))
abbrev PL_law_bk_near (F F_law_coin F_law_bk_way : DF) : Prop := ∀ (ds : List PyData) (q : PyData → PyData → Prop) (a : Addr), ds.length = 3 → F ds q → (t_law_bk_near F_law_coin F_law_bk_way) (endsD true a q) (startD true a 10 ds)
theorem ok_law_bk_near {P : Program} {w : World} {K : PySem.W.Frag} {mg : Str → Option Value} {base : Heap} {f : Addr} {fd : FuncData} {F F_law_coin F_law_bk_way : DF} (Fn : FunD K "_law_bk_near" "_law_bk_near" (defArgs s_law_bk_near) (defBody s_law_bk_near) (defScope s_law_bk_near) [] [] f fd) (k_law_coin : Know P w K mg base "_law_coin" 1 ["purse", "many"] true 2 F_law_coin) (k_law_bk_way : Know P w K mg base "_law_bk_way" 2 ["purse", "top"] true 2 F_law_bk_way) (b_list : mg "list" = none) (b_range : mg "range" = none) (b_len : mg "len" = none) (b_tuple : mg "tuple" = none)
    (pl : PL_law_bk_near F F_law_coin F_law_bk_way) : FnOk P w K mg base CX0 3 f fd ["purse", "shape", "top"] (spD true 3 F) := by
  obtain ⟨f_law_coin, fd_law_coin, m_law_coin, kp_law_coin, bd_law_coin, G_law_coin⟩ := k_law_coin.ex
  obtain ⟨f_law_bk_way, fd_law_bk_way, m_law_bk_way, kp_law_bk_way, bd_law_bk_way, G_law_bk_way⟩ := k_law_bk_way.ex
  refine okD Fn sc_law_bk_near rfl (fun cdv A outer s H E hr => ?_) pl
  unfold t_law_bk_near
  exact (ds_cons (ds_par rfl sc_law_bk_near.nd rfl rfl (by decide) rfl rfl (daf_v (do_ix (do_nm (pv 1)) do_int (fun _ _ => rfl)) (daf_g (dgr_lc (own := [("row", 9)]) (by decide) rfl sc_law_bk_near.nd (di_any (do_ix (do_nm (pv 1)) do_int (fun _ _ => rfl))) (blkOk_by (N := ["purse", "shape", "top", "turn", "first", "rows", "state", "side", "pick", "row"]) (sc := defScope s_law_bk_near) (by decide +kernel)) (fun _ _ _ _ _ => (dg_name sc_law_bk_near.nd rfl (.inl rfl))) (fun _ _ _ _ _ => (dfr_listOf rfl b_list (do_nm (pv 9))))) daf_nil)) rfl) (ds_cons (ds_for .never rfl (di_range1 rfl b_range (da_cons (do_callM G_law_coin (hr.mono (by decide)) rfl m_law_coin kp_law_coin bd_law_coin (da_cons (do_nm (pv 0)) (da_cons do_int da_nil))) da_nil)) (dg_name sc_law_bk_near.nd rfl (.inl rfl)) (ds_cons (ds_par3 rfl sc_law_bk_near.nd rfl rfl rfl (by decide) (by decide) (by decide) rfl rfl rfl (daf_v (do_callM G_law_coin (hr.mono (by decide)) rfl m_law_coin kp_law_coin bd_law_coin (da_cons (do_nm (pv 0)) (da_cons (do_lenG rfl b_len (pv 5)) da_nil))) (daf_v (do_callM G_law_coin (hr.mono (by decide)) rfl m_law_coin kp_law_coin bd_law_coin (da_cons (do_nm (pv 0)) (da_cons do_int da_nil))) (daf_v (do_callM G_law_coin (hr.mono (by decide)) rfl m_law_coin kp_law_coin bd_law_coin (da_cons (do_nm (pv 0)) (da_cons do_int da_nil))) daf_nil))) rfl) (ds_one (ds_if (dp_eq hr.units (do_nm (pv 8)) do_int) (ds_one (ds_setIxG (pv 5) (do_nm (pv 6)) do_int (do_callM G_law_bk_way (hr.mono (by decide)) rfl m_law_bk_way kp_law_bk_way bd_law_bk_way (da_cons (do_nm (pv 0)) (da_cons (do_nm (pv 2)) da_nil))) (fun _ _ => rfl))) (ds_one (ds_if (dp_eq hr.units (do_nm (pv 8)) do_int) (ds_one (ds_setIxG (pv 5) (do_nm (pv 6)) (do_nm (pv 7)) (do_tup (da_cons (do_callM G_law_bk_way (hr.mono (by decide)) rfl m_law_bk_way kp_law_bk_way bd_law_bk_way (da_cons (do_nm (pv 0)) (da_cons (do_nm (pv 2)) da_nil))) (da_cons (do_ix (do_ixG (pv 5) (do_nm (pv 6)) (do_nm (pv 7)) (fun _ _ => rfl) (fun _ _ => rfl)) do_int (fun _ _ => rfl)) da_nil))) (fun _ _ => rfl))) (ds_one (ds_if (dp_eq hr.units (do_nm (pv 8)) do_int) (ds_one (ds_setIxG (pv 5) (do_nm (pv 6)) (do_nm (pv 7)) (do_tup (da_cons (do_ix (do_ixG (pv 5) (do_nm (pv 6)) (do_nm (pv 7)) (fun _ _ => rfl) (fun _ _ => rfl)) do_int (fun _ _ => rfl)) (da_cons (do_callM G_law_coin (hr.mono (by decide)) rfl m_law_coin kp_law_coin bd_law_coin (da_cons (do_nm (pv 0)) (da_cons (do_lenG rfl b_len (pv 5)) da_nil))) da_nil))) (fun _ _ => rfl))) (ds_one (ds_set sc_law_bk_near.nd rfl (.inl rfl) (do_callM G_law_bk_way (hr.mono (by decide)) rfl m_law_bk_way kp_law_bk_way bd_law_bk_way (da_cons (do_nm (pv 0)) (da_cons (do_nm (pv 2)) da_nil))))))))))))) (ds_one (ds_ret (do_tup (da_cons (do_nm (pv 4)) (da_cons (do_f (dfr_lc (own := [("row", 9)]) (by decide) rfl sc_law_bk_near.nd (di_any (do_nm (pv 5))) (blkOk_by (N := ["purse", "shape", "top", "turn", "first", "rows", "state", "side", "pick", "row"]) (sc := defScope s_law_bk_near) (by decide +kernel)) (fun _ _ _ _ _ => (dg_name sc_law_bk_near.nd rfl (.inl rfl))) (fun _ _ _ _ _ => dts_nil) (fun _ _ _ _ _ => (do_tupOf rfl b_tuple (do_nm (pv 9)))))) da_nil)))))))
/-! _law_bk_pulled -/
abbrev s_law_bk_pulled : Stmt := topS 46
theorem sc_law_bk_pulled : FnScope ["shape", "state", "lasts", "row", "rows", "spot", "put", "moves", "text", "far", "side", "entry"] ["shape", "state"] (defScope s_law_bk_pulled) := ⟨rfl, rfl, rfl, by decide +kernel, rfl, by decide +kernel, by decide +kernel⟩
def t_law_bk_pulled : DTS := (sSeq (sSet 2 (dIf (dB (d2x (gEq id) (dN 1) (dC (.int 0)))) (dLst (dCons (dSl (d2 gIx (dN 0) (dC (.int 0))) (dPt (d1 gNeg (dC (.int 1)))) dNoP) dNil)) (dLst dNil))) (sSeq (sFor (iAny (d2 gIx (dN 0) (dC (.int 1)))) (tgN 3) (sSet 2 (d2 gCat (dN 2) (dOfF (fLc (iR1 (dCons (dC (.int 2)) dNil)) (tgN 10) (dB (d2x (gEq id) (d2 gIx (d2 gIx (dN 3) (dN 10)) (dC (.int 1))) (dN 1))) (dSl (d2 gIx (d2 gIx (dN 3) (dN 10)) (dC (.int 0))) (dPt (d1 gNeg (dC (.int 1)))) dNoP) [10]))))) (sSeq (sIf (dOr (dB (d2x (gEq id) (dN 2) (dLst dNil))) (dOr (dB (d2x (gEq id) (d2 gIx (dN 2) (dC (.int 0))) (dC (S [])))) (dB (d2x (gEq (!·)) (dN 2) (dOfF (fLc (iAny (dN 2)) (tgN 11) dYes (d2 gIx (dN 2) (dC (.int 0))) [11])))))) (sRet (dN 0)) sNext) (sSeq (sSetF 4 (fLst dNil)) (sSeq (sFor (iR1 (dCons (dB1 (g1 gLen) (dCons (d2 gIx (dN 0) (dC (.int 1))) dNil)) dNil)) (tgN 5) (sSeq (sSet 6 (dIf (dB (d2x (gEq id) (dN 5) (dN 1))) (d2 gIx (dN 2) (dC (.int 0))) (dC (S [])))) (sSeq (sSetF 7 (fLst dNil)) (sSeq (sFor (iAny (dSl (d2 gIx (d2 gIx (dN 0) (dC (.int 1))) (dN 5)) dNoP (dPt (dC (.int 2))))) (tgSeq 2 (tgCons (tgN 8) (tgCons (tgN 9) tgNil))) (sAppend 7 (dTup (dCons (d2 gAdd (dN 6) (dIf (dB (d2x (gEq id) (dN 9) (dN 1))) (dSl (dN 8) dNoP (dPt (d1 gNeg (dC (.int 1))))) (dN 8))) (dCons (dN 9) dNil))))) (sAppend 4 (dTup (dCons (d2 gIx (dN 7) (dC (.int 0))) (dCons (d2 gIx (dN 7) (dC (.int 1))) (dCons (d2 gAdd (dN 6) (d2 gIx (d2 gIx (d2 gIx (dN 0) (dC (.int 1))) (dN 5)) (dC (.int 2)))) dNil))))))))) (sRet (dTup (dCons (dIf (dB (d2x (gEq id) (dN 1) (dC (.int 0)))) (dSl (d2 gIx (dN 0) (dC (.int 0))) dNoP (dPt (d1 gNeg (dC (.int 1))))) (d2 gIx (dN 0) (dC (.int 0)))) (dCons (dN 4) dNil)))))))))
abbrev PL_law_bk_pulled (F  : DF) : Prop := ∀ (ds : List PyData) (q : PyData → PyData → Prop) (a : Addr), ds.length = 2 → F ds q → (t_law_bk_pulled) (endsD false a q) (startD false a 12 ds)
theorem ok_law_bk_pulled {P : Program} {w : World} {K : PySem.W.Frag} {mg : Str → Option Value} {base : Heap} {f : Addr} {fd : FuncData} {F  : DF} (Fn : FunD K "_law_bk_pulled" "_law_bk_pulled" (defArgs s_law_bk_pulled) (defBody s_law_bk_pulled) (defScope s_law_bk_pulled) [] [] f fd) (b_range : mg "range" = none) (b_len : mg "len" = none)
    (pl : PL_law_bk_pulled F) : FnOk P w K mg base CX0 1 f fd ["shape", "state"] (spD false 2 F) := by
  refine okD Fn sc_law_bk_pulled rfl (fun cdv A outer s H E hr => ?_) pl
  unfold t_law_bk_pulled
  exact (ds_cons (ds_set sc_law_bk_pulled.nd rfl (.inr rfl) (do_if (dp_eq hr.units (do_nm (pv 1)) do_int) (do_lst (da_cons (do_sl (do_ix (do_nm (pv 0)) do_int (fun _ _ => rfl)) (dpo_some (do_neg do_int)) dpo_none) da_nil)) (do_lst da_nil))) (ds_cons (ds_for .never rfl (di_any (do_ix (do_nm (pv 0)) do_int (fun _ _ => rfl))) (dg_name sc_law_bk_pulled.nd rfl (.inr rfl)) (ds_one (ds_set sc_law_bk_pulled.nd rfl (.inr rfl) (do_cat (do_nm (pv 2)) (do_f (dfr_lc (own := [("side", 10)]) (by decide) rfl sc_law_bk_pulled.nd (di_range1 rfl b_range (da_cons do_int da_nil)) (blkOk_by (N := ["shape", "state", "lasts", "row", "rows", "spot", "put", "moves", "text", "far", "side", "entry"]) (sc := defScope s_law_bk_pulled) (by decide +kernel)) (fun _ _ _ _ _ => (dg_name sc_law_bk_pulled.nd rfl (.inl rfl))) (fun _ _ _ _ _ => (dts_one (dp_eq hr.units (do_ix (do_ix (do_nm (pv 3)) (do_nm (pv 10)) (fun _ _ => rfl)) do_int (fun _ _ => rfl)) (do_nm (pv 1))))) (fun _ _ _ _ _ => (do_sl (do_ix (do_ix (do_nm (pv 3)) (do_nm (pv 10)) (fun _ _ => rfl)) do_int (fun _ _ => rfl)) (dpo_some (do_neg do_int)) dpo_none)))))))) (ds_cons (ds_if (dp_w (dw_or (dp_eq hr.units (do_nm (pv 2)) (do_lst da_nil)) (dw_or (dp_eq hr.units (do_ix (do_nm (pv 2)) do_int (fun _ _ => rfl)) (do_strL [] (by decide +kernel))) (dw_or1 (dp_ne hr.units (do_nm (pv 2)) (do_f (dfr_lc (own := [("entry", 11)]) (by decide) rfl sc_law_bk_pulled.nd (di_any (do_nm (pv 2))) (blkOk_by (N := ["shape", "state", "lasts", "row", "rows", "spot", "put", "moves", "text", "far", "side", "entry"]) (sc := defScope s_law_bk_pulled) (by decide +kernel)) (fun _ _ _ _ _ => (dg_name sc_law_bk_pulled.nd rfl (.inl rfl))) (fun _ _ _ _ _ => dts_nil) (fun _ _ _ _ _ => (do_ix (do_nm (pv 2)) do_int (fun _ _ => rfl)))))))))) (ds_one (ds_ret (do_nm (pv 0)))) ds_nil) (ds_cons (ds_setF sc_law_bk_pulled.nd rfl (.inl rfl) (dfr_lst da_nil)) (ds_cons (ds_for .never rfl (di_range1 rfl b_range (da_cons (do_len rfl b_len (do_ix (do_nm (pv 0)) do_int (fun _ _ => rfl))) da_nil)) (dg_name sc_law_bk_pulled.nd rfl (.inl rfl)) (ds_cons (ds_set sc_law_bk_pulled.nd rfl (.inl rfl) (do_if (dp_eq hr.units (do_nm (pv 5)) (do_nm (pv 1))) (do_ix (do_nm (pv 2)) do_int (fun _ _ => rfl)) (do_strL [] (by decide +kernel)))) (ds_cons (ds_setF sc_law_bk_pulled.nd rfl (.inl rfl) (dfr_lst da_nil)) (ds_cons (ds_for .never rfl (di_any (do_sl (do_ix (do_ix (do_nm (pv 0)) do_int (fun _ _ => rfl)) (do_nm (pv 5)) (fun _ _ => rfl)) dpo_none (dpo_some do_int))) (dg_seq (n := 2) rfl (dgs_cons (dg_name sc_law_bk_pulled.nd rfl (.inl rfl)) (dgs_cons (dg_name sc_law_bk_pulled.nd rfl (.inl rfl)) dgs_nil))) (ds_one (ds_append (pv 7) (do_tup (da_cons (do_add (do_nm (pv 6)) (do_if (dp_eq hr.units (do_nm (pv 9)) (do_nm (pv 1))) (do_sl (do_nm (pv 8)) dpo_none (dpo_some (do_neg do_int))) (do_nm (pv 8)))) (da_cons (do_nm (pv 9)) da_nil)))))) (ds_one (ds_append (pv 4) (do_tup (da_cons (do_ix (do_nm (pv 7)) do_int (fun _ _ => rfl)) (da_cons (do_ix (do_nm (pv 7)) do_int (fun _ _ => rfl)) (da_cons (do_add (do_nm (pv 6)) (do_ix (do_ix (do_ix (do_nm (pv 0)) do_int (fun _ _ => rfl)) (do_nm (pv 5)) (fun _ _ => rfl)) do_int (fun _ _ => rfl))) da_nil)))))))))) (ds_one (ds_ret (do_tup (da_cons (do_if (dp_eq hr.units (do_nm (pv 1)) do_int) (do_sl (do_ix (do_nm (pv 0)) do_int (fun _ _ => rfl)) dpo_none (dpo_some (do_neg do_int))) (do_ix (do_nm (pv 0)) do_int (fun _ _ => rfl))) (da_cons (do_nm (pv 4)) da_nil))))))))))
/-! _law_bk_texts -/
abbrev s_law_bk_texts : Stmt := topS 47
theorem sc_law_bk_texts : FnScope ["top", "turn", "found", "line", "later", "text"] ["top"] (defScope s_law_bk_texts) := ⟨rfl, rfl, rfl, by decide +kernel, rfl, by decide +kernel, by decide +kernel⟩
def t_law_bk_texts : DTS := (sSeq (sPar 2 3 (afV (dLst (dCons (dC (S [])) dNil)) (afV (dLst (dCons (dC (S [])) dNil)) afNil))) (sSeq (sFor (iR1 (dCons (dN 0) dNil)) (tgN 1) (sSeq (sSet 4 (dLst dNil)) (sSeq (sFor (iAny (dN 3)) (tgN 5) (sSet 4 (d2 gCat (dN 4) (dLst (dCons (d2 gAdd (dN 5) (dC (S [76]))) (dCons (d2 gAdd (dN 5) (dC (S [82]))) dNil)))))) (sSeq (sSet 3 (dN 4)) (sSet 2 (d2 gCat (dN 2) (dN 3))))))) (sRet (dN 2))))
abbrev PL_law_bk_texts (F  : DF) : Prop := ∀ (ds : List PyData) (q : PyData → PyData → Prop) (a : Addr), ds.length = 1 → F ds q → (t_law_bk_texts) (endsD false a q) (startD false a 6 ds)
theorem ok_law_bk_texts {P : Program} {w : World} {K : PySem.W.Frag} {mg : Str → Option Value} {base : Heap} {f : Addr} {fd : FuncData} {F  : DF} (Fn : FunD K "_law_bk_texts" "_law_bk_texts" (defArgs s_law_bk_texts) (defBody s_law_bk_texts) (defScope s_law_bk_texts) [] [] f fd) (b_range : mg "range" = none)
    (pl : PL_law_bk_texts F) : FnOk P w K mg base CX0 1 f fd ["top"] (spD false 1 F) := by
  refine okD Fn sc_law_bk_texts rfl (fun cdv A outer s H E hr => ?_) pl
  unfold t_law_bk_texts
  exact (ds_cons (ds_par rfl sc_law_bk_texts.nd rfl rfl (by decide) rfl rfl (daf_v (do_lst (da_cons (do_strL [] (by decide +kernel)) da_nil)) (daf_v (do_lst (da_cons (do_strL [] (by decide +kernel)) da_nil)) daf_nil)) rfl) (ds_cons (ds_for .never rfl (di_range1 rfl b_range (da_cons (do_nm (pv 0)) da_nil)) (dg_name sc_law_bk_texts.nd rfl (.inl rfl)) (ds_cons (ds_set sc_law_bk_texts.nd rfl (.inl rfl) (do_lst da_nil)) (ds_cons (ds_for .never rfl (di_any (do_nm (pv 3))) (dg_name sc_law_bk_texts.nd rfl (.inl rfl)) (ds_one (ds_set sc_law_bk_texts.nd rfl (.inl rfl) (do_cat (do_nm (pv 4)) (do_lst (da_cons (do_add (do_nm (pv 5)) (do_strL [76] (by decide +kernel))) (da_cons (do_add (do_nm (pv 5)) (do_strL [82] (by decide +kernel))) da_nil))))))) (ds_cons (ds_set sc_law_bk_texts.nd rfl (.inl rfl) (do_nm (pv 4))) (ds_one (ds_set sc_law_bk_texts.nd rfl (.inl rfl) (do_cat (do_nm (pv 2)) (do_nm (pv 3))))))))) (ds_one (ds_ret (do_nm (pv 2))))))
/-! _law_bk_walk -/
abbrev s_law_bk_walk : Stmt := topS 48
theorem sc_law_bk_walk : FnScope ["shape", "way", "sign", "found", "state", "text"] ["shape", "way"] (defScope s_law_bk_walk) := ⟨rfl, rfl, rfl, by decide +kernel, rfl, by decide +kernel, by decide +kernel⟩
def t_law_bk_walk : DTS := (sSeq (sPar 3 4 (afV (d2 gIx (dN 0) (dC (.int 0))) (afV (dC (.int 0)) afNil))) (sSeq (sFor (iAny (dN 1)) (tgN 2) (sSeq (sAsg (d2 gIx (d2 gIx (d2 gIx (dN 0) (dC (.int 1))) (dN 4)) (dM1 gIndex (dC (S [76, 82])) (dN 2))) (tgSeq 2 (tgCons (tgN 5) (tgCons (tgN 4) tgNil)))) (sSet 3 (d2 gAdd (dN 3) (dN 5))))) (sRet (dTup (dCons (dN 3) (dCons (dN 4) dNil))))))
abbrev PL_law_bk_walk (F  : DF) : Prop := ∀ (ds : List PyData) (q : PyData → PyData → Prop) (a : Addr), ds.length = 2 → F ds q → (t_law_bk_walk) (endsD false a q) (startD false a 6 ds)
theorem ok_law_bk_walk {P : Program} {w : World} {K : PySem.W.Frag} {mg : Str → Option Value} {base : Heap} {f : Addr} {fd : FuncData} {F  : DF} (Fn : FunD K "_law_bk_walk" "_law_bk_walk" (defArgs s_law_bk_walk) (defBody s_law_bk_walk) (defScope s_law_bk_walk) [] [] f fd)
    (pl : PL_law_bk_walk F) : FnOk P w K mg base CX0 1 f fd ["shape", "way"] (spD false 2 F) := by
  refine okD Fn sc_law_bk_walk rfl (fun cdv A outer s H E hr => ?_) pl
  unfold t_law_bk_walk
  exact (ds_cons (ds_par rfl sc_law_bk_walk.nd rfl rfl (by decide) rfl rfl (daf_v (do_ix (do_nm (pv 0)) do_int (fun _ _ => rfl)) (daf_v do_int daf_nil)) rfl) (ds_cons (ds_for .never rfl (di_any (do_nm (pv 1))) (dg_name sc_law_bk_walk.nd rfl (.inl rfl)) (ds_cons (ds_asg (do_ix (do_ix (do_ix (do_nm (pv 0)) do_int (fun _ _ => rfl)) (do_nm (pv 4)) (fun _ _ => rfl)) (do_index (do_strL [76, 82] (by decide +kernel)) (do_nm (pv 2))) (fun _ _ => rfl)) (dg_seq (n := 2) rfl (dgs_cons (dg_name sc_law_bk_walk.nd rfl (.inl rfl)) (dgs_cons (dg_name sc_law_bk_walk.nd rfl (.inl rfl)) dgs_nil)))) (ds_one (ds_set sc_law_bk_walk.nd rfl (.inl rfl) (do_add (do_nm (pv 3)) (do_nm (pv 5))))))) (ds_one (ds_ret (do_tup (da_cons (do_nm (pv 3)) (da_cons (do_nm (pv 4)) da_nil)))))))
/-! _law_bk_run -/
abbrev s_law_bk_run : Stmt := topS 49
theorem sc_law_bk_run : FnScope ["shape", "way", "found", "state"] ["shape", "way"] (defScope s_law_bk_run) := ⟨rfl, rfl, rfl, by decide +kernel, rfl, by decide +kernel, by decide +kernel⟩
def t_law_bk_run (F_law_bk_walk : DF) : DTS := (sSeq (sAsg (dCall 2 F_law_bk_walk (dCons (dN 0) (dCons (dN 1) dNil))) (tgSeq 2 (tgCons (tgN 2) (tgCons (tgN 3) tgNil)))) (sRet (d2 gAdd (dN 2) (d2 gIx (d2 gIx (d2 gIx (dN 0) (dC (.int 1))) (dN 3)) (dC (.int 2))))))
abbrev PL_law_bk_run (F F_law_bk_walk : DF) : Prop := ∀ (ds : List PyData) (q : PyData → PyData → Prop) (a : Addr), ds.length = 2 → F ds q → (t_law_bk_run F_law_bk_walk) (endsD false a q) (startD false a 4 ds)
theorem ok_law_bk_run {P : Program} {w : World} {K : PySem.W.Frag} {mg : Str → Option Value} {base : Heap} {f : Addr} {fd : FuncData} {F F_law_bk_walk : DF} (Fn : FunD K "_law_bk_run" "_law_bk_run" (defArgs s_law_bk_run) (defBody s_law_bk_run) (defScope s_law_bk_run) [] [] f fd) (k_law_bk_walk : Know P w K mg base "_law_bk_walk" 1 ["shape", "way"] false 2 F_law_bk_walk)
    (pl : PL_law_bk_run F F_law_bk_walk) : FnOk P w K mg base CX0 2 f fd ["shape", "way"] (spD false 2 F) := by
  obtain ⟨f_law_bk_walk, fd_law_bk_walk, m_law_bk_walk, kp_law_bk_walk, bd_law_bk_walk, G_law_bk_walk⟩ := k_law_bk_walk.ex
  refine okD Fn sc_law_bk_run rfl (fun cdv A outer s H E hr => ?_) pl
  unfold t_law_bk_run
  exact (ds_cons (ds_asg (do_call G_law_bk_walk (hr.mono (by decide)) rfl m_law_bk_walk kp_law_bk_walk bd_law_bk_walk (da_cons (do_nm (pv 0)) (da_cons (do_nm (pv 1)) da_nil))) (dg_seq (n := 2) rfl (dgs_cons (dg_name sc_law_bk_run.nd rfl (.inl rfl)) (dgs_cons (dg_name sc_law_bk_run.nd rfl (.inl rfl)) dgs_nil)))) (ds_one (ds_ret (do_add (do_nm (pv 2)) (do_ix (do_ix (do_ix (do_nm (pv 0)) do_int (fun _ _ => rfl)) (do_nm (pv 3)) (fun _ _ => rfl)) do_int (fun _ _ => rfl))))))
/-! _law_right -/
abbrev s_law_right : Stmt := topS 50
theorem sc_law_right : FnScope ["purse", "shape", "rival", "pick", "size_here", "texts_here", "unlike_here", "some", "plain", "both", "back_here", "near", "far", "owed", "many", "spot", "text", "way"] ["purse"] (defScope s_law_right) := ⟨rfl, rfl, rfl, by decide +kernel, rfl, by decide +kernel, by decide +kernel⟩
def t_law_right (F_law_bk_shape F_law_coin F_law_bk_near F_law_bk_pulled F_table_of F_law_bk_texts F_law_bk_run F_least F_alike F_first_unlike F_machine_from F_joined : DF) : DTS := (sSeq (sSet 1 (dCallM 3 F_law_bk_shape (dCons (dN 0) (dCons (d2 gAdd (dC (.int 1)) (dCallM 2 F_law_coin (dCons (dN 0) (dCons (dC (.int 3)) dNil)))) (dCons (d2 gAdd (dC (.int 1)) (dCallM 2 F_law_coin (dCons (dN 0) (dCons (dC (.int 3)) dNil)))) dNil))))) (sSeq (sSet 2 (dCallM 3 F_law_bk_near (dCons (dN 0) (dCons (dN 1) (dCons (dC (.int 3)) dNil))))) (sSeq (sSet 3 (dCallM 2 F_law_coin (dCons (dN 0) (dCons (dC (.int 4)) dNil)))) (sSeq (sIf (dB (d2x (gEq id) (dN 3) (dC (.int 0)))) (sSet 2 (dCallM 3 F_law_bk_shape (dCons (dN 0) (dCons (d2 gAdd (dC (.int 1)) (dCallM 2 F_law_coin (dCons (dN 0) (dCons (dC (.int 3)) dNil)))) (dCons (dC (.int 2)) dNil))))) sNext) (sSeq (sIf (dB (d2x (gEq id) (dN 3) (dC (.int 1)))) (sSet 2 (dCall 2 F_law_bk_pulled (dCons (dN 1) (dCons (dCallM 2 F_law_coin (dCons (dN 0) (dCons (dB1 (g1 gLen) (dCons (d2 gIx (dN 1) (dC (.int 1))) dNil)) dNil))) dNil)))) sNext) (sSeq (sSet 4 (d2 gSub (d2 gAdd (dB1 (g1 gLen) (dCons (d2 gIx (dN 1) (dC (.int 1))) dNil)) (dB1 (g1 gLen) (dCons (d2 gIx (dN 2) (dC (.int 1))) dNil))) (dC (.int 1)))) (sSeq (sAsg (dTup (dCons (dCall 2 F_table_of (dCons (dN 1) (dCons (dN 4) dNil))) (dCons (dCall 2 F_table_of (dCons (dN 2) (dCons (dN 4) dNil))) dNil))) (tgSeq 2 (tgCons (tgN 11) (tgCons (tgN 12) tgNil)))) (sSeq (sSet 5 (dCall 1 F_law_bk_texts (dCons (dN 4) dNil))) (sSeq (sIf (dOr (dB (d2x (gEq (!·)) (dN 11) (dOfF (fLc (iAny (dN 5)) (tgN 17) dYes (dCall 2 F_law_bk_run (dCons (dN 1) (dCons (dN 17) dNil))) [17])))) (dB (d2x (gEq (!·)) (dB1 (g1 gLen) (dCons (dN 12) dNil)) (dB1 (g1 gLen) (dCons (dN 11) dNil))))) (sRet (dC (.bool false))) sNext) (sSeq (sSetV 6 (fLc (iR1 (dCons (dB1 (g1 gLen) (dCons (dN 11) dNil)) dNil)) (tgN 15) (dB (d2x (gEq (!·)) (d2 gIx (dN 11) (dN 15)) (d2 gIx (dN 12) (dN 15)))) (d2 gIx (dN 5) (dN 15)) [15])) (sSeq (sIf (dOr (dB (d2x (gEq (!·)) (dCall 2 F_alike (dCons (dN 1) (dCons (dN 2) dNil))) (d2x (gEq id) (dN 6) (dLst dNil)))) (dB (d2x (gEq (!·)) (d2x (gEq id) (dCall 1 F_least (dCons (dN 1) dNil)) (dCall 1 F_least (dCons (dN 2) dNil))) (d2x (gEq id) (dN 6) (dLst dNil))))) (sRet (dC (.bool false))) sNext) (sSeq (sIf (dB (d2x (gEq (!·)) (dCall 2 F_first_unlike (dCons (dN 1) (dCons (dN 2) dNil))) (dIf (dB (d2x (gEq (!·)) (dN 6) (dLst dNil))) (d2 gIx (dN 6) (dC (.int 0))) (dC .none)))) (sRet (dC (.bool false))) sNext) (sSeq (sFor (iAny (dTup (dCons (dN 1) (dCons (dN 2) dNil)))) (tgN 7) (sSeq (sSet 13 (dCall 1 F_least (dCons (dN 7) dNil))) (sFor (iR2 (dCons (dB1 (g1 gLen) (dCons (d2 gIx (dN 13) (dC (.int 1))) dNil)) (dCons (dC (.int 4)) dNil))) (tgN 14) (sIf (dB (d2x (gEq (!·)) (dCall 2 F_machine_from (dCons (dCall 2 F_table_of (dCons (dN 7) (dCons (d2 gSub (d2 gMul (dC (.int 2)) (dN 14)) (dC (.int 1))) dNil))) (dCons (dN 14) dNil))) (dN 13))) (sRet (dC (.bool false))) sNext)))) (sSeq (sSet 8 (dCallM 3 F_law_bk_shape (dCons (dN 0) (dCons (dC (.int 1)) (dCons (dC (.int 2)) dNil))))) (sSeq (sSet 9 (dCall 2 F_joined (dCons (dN 1) (dCons (dN 8) dNil)))) (sSeq (sIf (dB (d2x (gEq (!·)) (dCall 2 F_table_of (dCons (dN 9) (dCons (dC (.int 3)) dNil))) (dOfF (fLc (iAny (dCall 2 F_table_of (dCons (dN 1) (dCons (dC (.int 3)) dNil)))) (tgN 16) dYes (dCall 2 F_law_bk_run (dCons (dN 8) (dCons (dN 16) dNil))) [16])))) (sRet (dC (.bool false))) sNext) (sSeq (sIf (dB (d2 gGt (dB1 (g1 gLen) (dCons (d2 gIx (dN 9) (dC (.int 1))) dNil)) (dC (.int 3)))) (sRet (dC (.bool true))) sNext) (sSeq (sSet 10 (dCall 2 F_machine_from (dCons (dCall 2 F_table_of (dCons (dN 9) (dCons (dC (.int 5)) dNil))) (dCons (dC (.int 3)) dNil)))) (sRet (dAndV (d2x (gEq id) (dN 10) (dN 9)) (dAndV (dCall 2 F_alike (dCons (dN 10) (dCons (dN 9) dNil))) (d2x (gIs id) (dCall 2 F_first_unlike (dCons (dN 9) (dCons (dN 10) dNil))) (dC .none)))))))))))))))))))))))
abbrev PL_law_right (F F_law_bk_shape F_law_coin F_law_bk_near F_law_bk_pulled F_table_of F_law_bk_texts F_law_bk_run F_least F_alike F_first_unlike F_machine_from F_joined : DF) : Prop := ∀ (ds : List PyData) (q : PyData → PyData → Prop) (a : Addr), ds.length = 1 → F ds q → (t_law_right F_law_bk_shape F_law_coin F_law_bk_near F_law_bk_pulled F_table_of F_law_bk_texts F_law_bk_run F_least F_alike F_first_unlike F_machine_from F_joined) (endsD true a q) (startD true a 18 ds)
theorem ok_law_right {P : Program} {w : World} {K : PySem.W.Frag} {mg : Str → Option Value} {base : Heap} {f : Addr} {fd : FuncData} {F F_law_bk_shape F_law_coin F_law_bk_near F_law_bk_pulled F_table_of F_law_bk_texts F_law_bk_run F_least F_alike F_first_unlike F_machine_from F_joined : DF} (Fn : FunD K "_law_right" "_law_right" (defArgs s_law_right) (defBody s_law_right) (defScope s_law_right) [] [] f fd) (k_law_bk_shape : Know P w K mg base "_law_bk_shape" 3 ["purse", "many", "top"] true 3 F_law_bk_shape) (k_law_coin : Know P w K mg base "_law_coin" 1 ["purse", "many"] true 2 F_law_coin) (k_law_bk_near : Know P w K mg base "_law_bk_near" 3 ["purse", "shape", "top"] true 3 F_law_bk_near) (k_law_bk_pulled : Know P w K mg base "_law_bk_pulled" 1 ["shape", "state"] false 2 F_law_bk_pulled) (k_table_of : Know P w K mg base "table_of" 5 ["machine", "length"] false 2 F_table_of) (k_law_bk_texts : Know P w K mg base "_law_bk_texts" 1 ["top"] false 1 F_law_bk_texts) (k_law_bk_run : Know P w K mg base "_law_bk_run" 2 ["shape", "way"] false 2 F_law_bk_run) (k_least : Know P w K mg base "least" 4 ["machine"] false 1 F_least) (k_alike : Know P w K mg base "alike" 5 ["one", "other"] false 2 F_alike) (k_first_unlike : Know P w K mg base "first_unlike" 4 ["one", "other"] false 2 F_first_unlike) (k_machine_from : Know P w K mg base "machine_from" 5 ["words", "most"] false 2 F_machine_from) (k_joined : Know P w K mg base "joined" 4 ["one", "other"] false 2 F_joined) (b_len : mg "len" = none) (b_range : mg "range" = none)
    (pl : PL_law_right F F_law_bk_shape F_law_coin F_law_bk_near F_law_bk_pulled F_table_of F_law_bk_texts F_law_bk_run F_least F_alike F_first_unlike F_machine_from F_joined) : FnG P w K mg base 6 f fd ["purse"] (spD true 1 F) := by
  obtain ⟨f_law_bk_shape, fd_law_bk_shape, m_law_bk_shape, kp_law_bk_shape, bd_law_bk_shape, G_law_bk_shape⟩ := k_law_bk_shape.ex
  obtain ⟨f_law_coin, fd_law_coin, m_law_coin, kp_law_coin, bd_law_coin, G_law_coin⟩ := k_law_coin.ex
  obtain ⟨f_law_bk_near, fd_law_bk_near, m_law_bk_near, kp_law_bk_near, bd_law_bk_near, G_law_bk_near⟩ := k_law_bk_near.ex
  obtain ⟨f_law_bk_pulled, fd_law_bk_pulled, m_law_bk_pulled, kp_law_bk_pulled, bd_law_bk_pulled, G_law_bk_pulled⟩ := k_law_bk_pulled.ex
  obtain ⟨f_table_of, fd_table_of, m_table_of, kp_table_of, bd_table_of, G_table_of⟩ := k_table_of.ex
  obtain ⟨f_law_bk_texts, fd_law_bk_texts, m_law_bk_texts, kp_law_bk_texts, bd_law_bk_texts, G_law_bk_texts⟩ := k_law_bk_texts.ex
  obtain ⟨f_law_bk_run, fd_law_bk_run, m_law_bk_run, kp_law_bk_run, bd_law_bk_run, G_law_bk_run⟩ := k_law_bk_run.ex
  obtain ⟨f_least, fd_least, m_least, kp_least, bd_least, G_least⟩ := k_least.ex
  obtain ⟨f_alike, fd_alike, m_alike, kp_alike, bd_alike, G_alike⟩ := k_alike.ex
  obtain ⟨f_first_unlike, fd_first_unlike, m_first_unlike, kp_first_unlike, bd_first_unlike, G_first_unlike⟩ := k_first_unlike.ex
  obtain ⟨f_machine_from, fd_machine_from, m_machine_from, kp_machine_from, bd_machine_from, G_machine_from⟩ := k_machine_from.ex
  obtain ⟨f_joined, fd_joined, m_joined, kp_joined, bd_joined, G_joined⟩ := k_joined.ex
  refine okDG Fn sc_law_right rfl (fun cdv A outer s H E gd hr => ?_) pl
  unfold t_law_right
  exact (ds_cons (ds_set sc_law_right.nd rfl (.inr rfl) (do_callM G_law_bk_shape (hr.mono (by decide)) rfl m_law_bk_shape kp_law_bk_shape bd_law_bk_shape (da_cons (do_nm (pv 0)) (da_cons (do_add do_int (do_callM G_law_coin (hr.mono (by decide)) rfl m_law_coin kp_law_coin bd_law_coin (da_cons (do_nm (pv 0)) (da_cons do_int da_nil)))) (da_cons (do_add do_int (do_callM G_law_coin (hr.mono (by decide)) rfl m_law_coin kp_law_coin bd_law_coin (da_cons (do_nm (pv 0)) (da_cons do_int da_nil)))) da_nil))))) (ds_cons (ds_set sc_law_right.nd rfl (.inl rfl) (do_callM G_law_bk_near (hr.mono (by decide)) rfl m_law_bk_near kp_law_bk_near bd_law_bk_near (da_cons (do_nm (pv 0)) (da_cons (do_nm (pv 1)) (da_cons do_int da_nil))))) (ds_cons (ds_set sc_law_right.nd rfl (.inl rfl) (do_callM G_law_coin (hr.mono (by decide)) rfl m_law_coin kp_law_coin bd_law_coin (da_cons (do_nm (pv 0)) (da_cons do_int da_nil)))) (ds_cons (ds_if (dp_eq hr.units (do_nm (pv 3)) do_int) (ds_one (ds_set sc_law_right.nd rfl (.inl rfl) (do_callM G_law_bk_shape (hr.mono (by decide)) rfl m_law_bk_shape kp_law_bk_shape bd_law_bk_shape (da_cons (do_nm (pv 0)) (da_cons (do_add do_int (do_callM G_law_coin (hr.mono (by decide)) rfl m_law_coin kp_law_coin bd_law_coin (da_cons (do_nm (pv 0)) (da_cons do_int da_nil)))) (da_cons do_int da_nil)))))) ds_nil) (ds_cons (ds_if (dp_eq hr.units (do_nm (pv 3)) do_int) (ds_one (ds_set sc_law_right.nd rfl (.inl rfl) (do_call G_law_bk_pulled (hr.mono (by decide)) rfl m_law_bk_pulled kp_law_bk_pulled bd_law_bk_pulled (da_cons (do_nm (pv 1)) (da_cons (do_callM G_law_coin (hr.mono (by decide)) rfl m_law_coin kp_law_coin bd_law_coin (da_cons (do_nm (pv 0)) (da_cons (do_len rfl b_len (do_ix (do_nm (pv 1)) do_int (fun _ _ => rfl))) da_nil))) da_nil))))) ds_nil) (ds_cons (ds_set sc_law_right.nd rfl (.inl rfl) (do_sub (do_add (do_len rfl b_len (do_ix (do_nm (pv 1)) do_int (fun _ _ => rfl))) (do_len rfl b_len (do_ix (do_nm (pv 2)) do_int (fun _ _ => rfl)))) do_int)) (ds_cons (ds_asg (do_tup (da_cons (do_call G_table_of (hr.mono (by decide)) rfl m_table_of kp_table_of bd_table_of (da_cons (do_nm (pv 1)) (da_cons (do_nm (pv 4)) da_nil))) (da_cons (do_call G_table_of (hr.mono (by decide)) rfl m_table_of kp_table_of bd_table_of (da_cons (do_nm (pv 2)) (da_cons (do_nm (pv 4)) da_nil))) da_nil))) (dg_seq (n := 2) rfl (dgs_cons (dg_name sc_law_right.nd rfl (.inr rfl)) (dgs_cons (dg_name sc_law_right.nd rfl (.inr rfl)) dgs_nil)))) (ds_cons (ds_set sc_law_right.nd rfl (.inr rfl) (do_call G_law_bk_texts (hr.mono (by decide)) rfl m_law_bk_texts kp_law_bk_texts bd_law_bk_texts (da_cons (do_nm (pv 4)) da_nil))) (ds_cons (ds_if (dp_w (dw_or (dp_ne hr.units (do_nm (pv 11)) (do_f (dfr_lc (own := [("way", 17)]) (by decide) rfl sc_law_right.nd (di_any (do_nm (pv 5))) (blkOk_by (N := ["purse", "shape", "rival", "pick", "size_here", "texts_here", "unlike_here", "some", "plain", "both", "back_here", "near", "far", "owed", "many", "spot", "text", "way"]) (sc := defScope s_law_right) (by decide +kernel)) (fun _ _ _ _ _ => (dg_name sc_law_right.nd rfl (.inl rfl))) (fun _ _ _ _ _ => dts_nil) (fun _ _ _ _ _ => (do_call G_law_bk_run (hr.mono (by decide)) rfl m_law_bk_run kp_law_bk_run bd_law_bk_run (da_cons (do_nm (pv 1)) (da_cons (do_nm (pv 17)) da_nil))))))) (dw_or1 (dp_ne hr.units (do_len rfl b_len (do_nm (pv 12))) (do_len rfl b_len (do_nm (pv 11))))))) (ds_one (ds_ret do_bl)) ds_nil) (ds_cons (ds_setLcV (own := [("spot", 15)]) (by decide) rfl sc_law_right.nd rfl rfl rfl (di_range1 rfl b_range (da_cons (do_len rfl b_len (do_nm (pv 11))) da_nil)) (blkOk_by (N := ["purse", "shape", "rival", "pick", "size_here", "texts_here", "unlike_here", "some", "plain", "both", "back_here", "near", "far", "owed", "many", "spot", "text", "way"]) (sc := defScope s_law_right) (by decide +kernel)) (fun _ _ _ _ _ => (dg_name sc_law_right.nd rfl (.inl rfl))) (fun _ _ _ _ _ => (dts_one (dp_ne hr.units (do_ix (do_nm (pv 11)) (do_nm (pv 15)) (fun _ _ => rfl)) (do_ix (do_nm (pv 12)) (do_nm (pv 15)) (fun _ _ => rfl))))) (fun _ _ _ _ _ => (do_ix (do_nm (pv 5)) (do_nm (pv 15)) (fun _ _ => rfl)))) (ds_cons (ds_if (dp_w (dw_or (dp_ne hr.units (do_call G_alike (hr.mono (by decide)) rfl m_alike kp_alike bd_alike (da_cons (do_nm (pv 1)) (da_cons (do_nm (pv 2)) da_nil))) (do_eq hr.units (do_nm (pv 6)) (do_lst da_nil))) (dw_or1 (dp_ne hr.units (do_eq hr.units (do_call G_least (hr.mono (by decide)) rfl m_least kp_least bd_least (da_cons (do_nm (pv 1)) da_nil)) (do_call G_least (hr.mono (by decide)) rfl m_least kp_least bd_least (da_cons (do_nm (pv 2)) da_nil))) (do_eq hr.units (do_nm (pv 6)) (do_lst da_nil)))))) (ds_one (ds_ret do_bl)) ds_nil) (ds_cons (ds_if (dp_ne hr.units (do_call G_first_unlike (hr.mono (by decide)) rfl m_first_unlike kp_first_unlike bd_first_unlike (da_cons (do_nm (pv 1)) (da_cons (do_nm (pv 2)) da_nil))) (do_if (dp_ne hr.units (do_nm (pv 6)) (do_lst da_nil)) (do_ix (do_nm (pv 6)) do_int (fun _ _ => rfl)) do_non)) (ds_one (ds_ret do_bl)) ds_nil) (ds_cons (ds_for .never rfl (di_any (do_tup (da_cons (do_nm (pv 1)) (da_cons (do_nm (pv 2)) da_nil)))) (dg_name sc_law_right.nd rfl (.inl rfl)) (ds_cons (ds_set sc_law_right.nd rfl (.inl rfl) (do_call G_least (hr.mono (by decide)) rfl m_least kp_least bd_least (da_cons (do_nm (pv 7)) da_nil))) (ds_one (ds_for .never rfl (di_range2 rfl b_range (da_cons (do_len rfl b_len (do_ix (do_nm (pv 13)) do_int (fun _ _ => rfl))) (da_cons do_int da_nil))) (dg_name sc_law_right.nd rfl (.inl rfl)) (ds_one (ds_if (dp_ne hr.units (do_call G_machine_from (hr.mono (by decide)) rfl m_machine_from kp_machine_from bd_machine_from (da_cons (do_call G_table_of (hr.mono (by decide)) rfl m_table_of kp_table_of bd_table_of (da_cons (do_nm (pv 7)) (da_cons (do_sub (do_mul do_int (do_nm (pv 14))) do_int) da_nil))) (da_cons (do_nm (pv 14)) da_nil))) (do_nm (pv 13))) (ds_one (ds_ret do_bl)) ds_nil)))))) (ds_cons (ds_set sc_law_right.nd rfl (.inr rfl) (do_callM G_law_bk_shape (hr.mono (by decide)) rfl m_law_bk_shape kp_law_bk_shape bd_law_bk_shape (da_cons (do_nm (pv 0)) (da_cons do_int (da_cons do_int da_nil))))) (ds_cons (ds_set sc_law_right.nd rfl (.inl rfl) (do_call G_joined (hr.mono (by decide)) rfl m_joined kp_joined bd_joined (da_cons (do_nm (pv 1)) (da_cons (do_nm (pv 8)) da_nil)))) (ds_cons (ds_if (dp_ne hr.units (do_call G_table_of (hr.mono (by decide)) rfl m_table_of kp_table_of bd_table_of (da_cons (do_nm (pv 9)) (da_cons do_int da_nil))) (do_f (dfr_lc (own := [("text", 16)]) (by decide) rfl sc_law_right.nd (di_any (do_call G_table_of (hr.mono (by decide)) rfl m_table_of kp_table_of bd_table_of (da_cons (do_nm (pv 1)) (da_cons do_int da_nil)))) (blkOk_by (N := ["purse", "shape", "rival", "pick", "size_here", "texts_here", "unlike_here", "some", "plain", "both", "back_here", "near", "far", "owed", "many", "spot", "text", "way"]) (sc := defScope s_law_right) (by decide +kernel)) (fun _ _ _ _ _ => (dg_name sc_law_right.nd rfl (.inl rfl))) (fun _ _ _ _ _ => dts_nil) (fun _ _ _ _ _ => (do_call G_law_bk_run (hr.mono (by decide)) rfl m_law_bk_run kp_law_bk_run bd_law_bk_run (da_cons (do_nm (pv 8)) (da_cons (do_nm (pv 16)) da_nil))))))) (ds_one (ds_ret do_bl)) ds_nil) (ds_cons (ds_if (dp_gt (do_len rfl b_len (do_ix (do_nm (pv 9)) do_int (fun _ _ => rfl))) do_int) (ds_one (ds_ret do_bl)) ds_nil) (ds_cons (ds_set sc_law_right.nd rfl (.inl rfl) (do_call G_machine_from (hr.mono (by decide)) rfl m_machine_from kp_machine_from bd_machine_from (da_cons (do_call G_table_of (hr.mono (by decide)) rfl m_table_of kp_table_of bd_table_of (da_cons (do_nm (pv 9)) (da_cons do_int da_nil))) (da_cons do_int da_nil)))) (ds_one (ds_ret (do_and (do_eq hr.units (do_nm (pv 10)) (do_nm (pv 9))) (do_and (do_call G_alike (hr.mono (by decide)) rfl m_alike kp_alike bd_alike (da_cons (do_nm (pv 10)) (da_cons (do_nm (pv 9)) da_nil))) (do_one (do_is (do_call G_first_unlike (hr.mono (by decide)) rfl m_first_unlike kp_first_unlike bd_first_unlike (da_cons (do_nm (pv 9)) (da_cons (do_nm (pv 10)) da_nil))) do_non))))))))))))))))))))))))
abbrev s_law_purse : Stmt := topS 41
abbrev s_law : Stmt := topS 51
abbrev lawC : Int := 3
theorem sc_law_purse : FnScope ["script", "place", "cell"] ["script", "place"] (defScope s_law_purse) := ⟨rfl, rfl, rfl, by decide +kernel, rfl, by decide +kernel, by decide +kernel⟩
theorem sc_law : FnScope ["script", "spot"] ["script"] (defScope s_law) := ⟨rfl, rfl, rfl, by decide +kernel, rfl, by decide +kernel, by decide +kernel⟩
def spPurse (K : PySem.W.Frag) : Sp := fun vs H Q _ => ∃ (a : Addr) (ns : List Int) (i : Nat), vs = [.ref a, .int i] ∧ SqL K H a (ns.map V.int) ∧ i < 1000 ∧
  ∀ (g s : Int) (p : Addr), 0 ≤ g → 0 ≤ s → s < 1000000000000000000000007 → H p = none → Q (.ref p) (upd H p (.lst [.int g, .int s, .int 0]))
section
variable {P : Program} {w : World} {K : PySem.W.Frag} {mg : Str → Option Value} {base : Heap} {f : Addr} {fd : FuncData}
theorem ok_law_purse (Fn : FunD K "_law_purse" "_law_purse" (defArgs s_law_purse) (defBody s_law_purse) (defScope s_law_purse) [] [] f fd) (b_len : mg "len" = none) (b_max : mg "max" = none) (b_abs : mg "abs" = none) (b_int : mg "int" = none) :
    FnOk P w K mg base CX0 1 f fd ["script", "place"] (spPurse K) := by
  refine Fn.ok sc_law_purse (fun vs H Q E h => ?_) (fun cdv A outer s H vs Q E hr h => ⟨_, PSs.nox (pss_cons (ps_set (i := 2) sc_law_purse.nd rfl (.inl rfl) (pe_ifExp (pt_cmpR op_lt (pv 1) (pe_callB call_len rfl b_len boot_len (pa_cons (pv 0) pa_nil)) (nomark _)) (pe_ix ix_seq (pv 0) (pv 1) (fun _ _ => rfl)) pe_int))
    (pss_one (ps_ret (pe_lst (pa_cons (pe_callB (call_max2 rfl) rfl b_max (by decide +kernel) (pa_cons pe_int (pa_cons (pe_op op_sub (pe_callB call_abs rfl b_abs (by decide +kernel) (pa_cons (pv 2) pa_nil)) (pe_op op_powW pe_int pe_int)) pa_nil)))
      (pa_cons (pe_op op_mod (pe_callTy call_int1 rfl b_int boot_int (pa_cons (pe_op op_add (pe_op op_add (pe_op op_mulA (pv 2) pe_int) (pe_op op_mulA (pv 1) pe_int)) pe_int) pa_nil)) (pe_op op_add (pe_op op_powW pe_int pe_int) pe_int)) (pa_cons pe_int pa_nil))))))), ?_⟩)
  · obtain ⟨a, ns, i, rfl, _⟩ := h
    rfl
  · obtain ⟨a, ns, i, rfl, hS, hi, hQ⟩ := h
    generalize hB : tRet _ = B
    have rest : ∀ c : Int, B { nx := fun _ H' => Q V.non H', rt := Q } [some (.ref a), some (.int i), some (.int c)] H := by
      intro c
      subst hB
      refine ⟨.int c, rfl, c, rfl, 10, 18, rfl, rfl, ⟨by decide, by decide +kernel⟩, _, _, rfl, rfl, 0, _, rfl, .int c, rfl, c, 30011, rfl, rfl, .inr (.inl (by decide)), .int i, rfl, i, 7368787, rfl, rfl, .inr (.inl (by decide)), _, _, rfl, rfl, _, 104729, rfl, rfl, .inl ⟨_, rfl, 10, 24, rfl, rfl, ⟨by decide, by decide +kernel⟩, _, 7, rfl, rfl, _, _, rfl, rfl, (show (0 : Int) < 10 ^ (24 : Int).toNat + 7 from by decide), by show 3 ≤ sizeLine; decide, fun p hp => ?_⟩⟩
      refine hQ _ _ p ?_ (Int.emod_nonneg _ (by decide)) ?_ hp
      · split <;> omega
      · exact Int.emod_lt_of_pos _ (by decide)
    refine ⟨.int i, rfl, .ref a, rfl, .ref a, ns.length, rfl, .inl ⟨_, hS, by rw [List.length_map]⟩, (i : Int), (ns.length : Int), rfl, rfl, _, rfl, ?_⟩
    dsimp only
    by_cases lt : i < ns.length
    · rw [if_pos (decide_eq_true (by omega))]
      exact ⟨.ref a, rfl, .int i, rfl, .inl ⟨a, _, (i : Nat), .int ns[i], rfl, rfl, hS, atI_nat (by simp [lt]), rest _⟩⟩
    · rw [if_neg (by simpa using lt)]
      exact rest 0
def spLaw (K : PySem.W.Frag) : Sp := fun vs H Q _ => ∃ (a : Addr) (ns : List Int), vs = [.ref a] ∧ SqL K H a (ns.map V.int) ∧ ns.length ≤ 63 ∧ ∀ H', Q (.bl true) H'
theorem ok_law {k : Nat} {F : DF} (Fn : FunD K "law" "law" (defArgs s_law) (defBody s_law) (defScope s_law) [] [] f fd) (b_len : mg "len" = none) (b_max : mg "max" = none) (b_min : mg "min" = none) (b_range : mg "range" = none)
    {fP : Addr} {fdP : FuncData} (mP : mg "_law_purse" = some (.ref fP)) (kP : PySem.W.keepIn K (.ref fP) = true) (bP : L2.Binds K fdP ["script", "place"] []) (GP : FnOk P w K mg base CX0 1 fP fdP ["script", "place"] (spPurse K))
    (right : KnowG P w K mg base "_law_right" (k + 1) ["purse"] true 1 F) (hF : ∀ (g s : Int) (q : PyData → PyData → Prop), 0 ≤ g → 0 ≤ s → s < 1000000000000000000000007 → (∀ e, q (.bool true) e) → F [.list [.int g, .int s, .int 0]] q) :
    FnG P w K mg base (k + 2) f fd ["script"] (spLaw K) := by
  obtain ⟨fR, fdR, mR, kR, bR, GR⟩ := right.ex
  refine fnG_of Fn sc_law (fun vs H Q E h => ?_) (fun cdv A outer s H vs Q E gd hr h => ⟨_, PSs.nox (pss_cons (ps_for .never rfl (pi_range1 rfl b_range (pa_cons (pe_callB (call_max2 rfl) rfl b_max (by decide +kernel) (pa_cons pe_int (pa_cons (pe_callB (call_min2 rfl) rfl b_min (by decide +kernel) (pa_cons pe_int (pa_cons (pe_callB call_len rfl b_len boot_len (pa_cons (pv 0) pa_nil)) pa_nil))) pa_nil))) pa_nil))
    (pg_name (i := 1) sc_law.nd rfl (.inl rfl)) (pss_one (ps_if (pt_not (pt_val (pe_callG GR gd hr rfl mR kR bR (pa_cons (pe_call GP (hr.mono (by omega)) rfl mP kP bP .nil pass0 (pa_cons (pv 0) (pa_cons (pv 1) pa_nil))) pa_nil) (by decide) rfl rfl))) (pss_one (ps_ret pe_bl)) pss_nil))) (pss_one (ps_ret pe_bl))), ?_⟩)
  · obtain ⟨a, ns, rfl, _⟩ := h
    rfl
  · obtain ⟨a, ns, rfl, hS, hl, hQ⟩ := h
    refine ⟨.ref a, rfl, .ref a, ns.length, rfl, .inl ⟨_, hS, by rw [List.length_map]⟩, _, _, rfl, _, _, rfl, _, rfl, ?_, ?_, for_range (fun _ σ H' => σ[0]? = some (some (.ref a)) ∧ σ.length = 2 ∧ SqL K H' a (ns.map V.int)) ⟨rfl, rfl, hS⟩ (fun i σ H' hi z => ?_) fun σ H' _ => hQ _⟩
    · show -(2 ^ 62 : Int) ≤ _
      split <;> split <;> omega
    · show _ < (2 ^ 62 : Int)
      split <;> split <;> omega
    · obtain ⟨h0, h2, hS'⟩ := z
      have hi' : i < 63 := by
        revert hi
        split <;> split <;> omega
      obtain ⟨x0, x1, rfl⟩ : ∃ x0 x1, σ = [x0, x1] := by
        match σ, h2 with
        | [x0, x1], _ => exact ⟨x0, x1, rfl⟩
      obtain rfl : x0 = some (.ref a) := Option.some.inj h0
      refine ⟨.ref a, rfl, .int (0 + (i : Int)), rfl, a, ns, i, by simp, hS', by omega, fun g s p hg hs hs2 hp => ?_⟩
      have keep : ∀ H2 : Hp, (∀ b o, upd H' p (.lst [.int g, .int s, .int 0]) b = some o → b ≠ p → H2 b = some o) → SqL K H2 a (ns.map V.int) := fun H2 h => by
        rcases hS' with (z | ⟨o, z⟩) | z
        · have ne1 : a ≠ p := fun q => by rw [q, hp] at z; cases z
          exact .inl (.inl (h a _ (by rw [upd_ne ne1]; exact z) ne1))
        · have ne1 : a ≠ p := fun q => by rw [q, hp] at z; cases z
          exact .inl (.inr ⟨o, h a _ (by rw [upd_ne ne1]; exact z) ne1⟩)
        · exact .inr z
      refine ⟨rfl, (· = p), [.list [.int g, .int s, .int 0]], fun d _ => d = .bool true, fun b hb => (by cases (show b = p from hb); exact ⟨_, upd_same, rfl⟩), hF g s _ hg hs hs2 fun _ => rfl, ?_⟩
      rw [if_pos rfl]
      refine ⟨p, [], .list [.int g, .int s, .int 0], [], rfl, rfl, rfl, ⟨_, upd_same, .lst (.cons (.int _) (.cons (.int _) (.cons (.int _) .nil)))⟩, .nil, fun d e v H2 hq hk ht hv => ?_⟩
      subst hq
      refine ⟨true, hv.bl', ?_⟩
      exact ⟨rfl, rfl, keep H2 hk⟩
end

end DL
namespace DL
open PySem PySem.Spec PyProof.Rows L2
theorem S_app (a b : List Bool) : S (L (mk (enc a)) ++ L (mk (enc b))) = Wd (a ++ b) := by
  rw [L_mk, L_mk, ← enc_app]
theorem LWd (w : List Bool) : ((L (mk (enc w))).length : Int) = (w.length : Nat) := by rw [L_mk, enc_len]
end DL
namespace DL
--plain
/-! ### beginnings of words -/
def lcp : List Bool → List Bool → Nat
  | x :: a, y :: b => if x = y then lcp a b + 1 else 0
  | _, _ => 0
/-- the longest common beginning -/
def lcpW (a b : List Bool) : List Bool := a.take (lcp a b)
theorem lcp_le : ∀ (a b : List Bool), lcp a b ≤ a.length ∧ lcp a b ≤ b.length
  | [], b => by cases b <;> exact ⟨Nat.zero_le _, Nat.zero_le _⟩
  | x :: a, [] => ⟨Nat.zero_le _, Nat.zero_le _⟩
  | x :: a, y :: b => by
    unfold lcp
    have ih := lcp_le a b
    split
    · simp only [List.length_cons]; omega
    · exact ⟨Nat.zero_le _, Nat.zero_le _⟩
theorem lcp_at : ∀ (a b : List Bool) (i : Nat), i < lcp a b → ∃ c, a[i]? = some c ∧ b[i]? = some c
  | [], b, i, h => by cases b <;> simp [lcp] at h
  | x :: a, [], i, h => by simp [lcp] at h
  | x :: a, y :: b, i, h => by
    unfold lcp at h
    split at h
    · rename_i e
      subst e
      cases i with
      | zero => exact ⟨x, rfl, rfl⟩
      | succ i => exact lcp_at a b i (by omega)
    · omega
theorem lcp_end : ∀ (a b : List Bool) {c d : Bool}, a[lcp a b]? = some c → b[lcp a b]? = some d → c ≠ d
  | [], b, c, d, h, _ => by simp at h
  | x :: a, [], c, d, _, h => by simp at h
  | x :: a, y :: b, c, d, h, h' => by
    unfold lcp at h h'
    split at h
    · rename_i e
      rw [if_pos e] at h'
      exact lcp_end a b (by simpa using h) (by simpa using h')
    · rename_i e
      rw [if_neg e] at h'
      simp at h h'
      subst h h'
      exact e
theorem lcpW_nil (b : List Bool) : lcpW [] b = [] := by simp [lcpW]
theorem lcpW_cons (x y : Bool) (a b : List Bool) : lcpW (x :: a) (y :: b) = if x = y then x :: lcpW a b else [] := by
  unfold lcpW
  rw [lcp]
  split <;> simp
theorem lcpW_left (a b : List Bool) : lcpW a b <+: a := List.take_prefix ..
theorem lcpW_right : ∀ (a b : List Bool), lcpW a b <+: b
  | [], b => by simp [lcpW]
  | x :: a, [] => by simp [lcpW, lcp]
  | x :: a, y :: b => by
    rw [lcpW_cons]
    split
    · rename_i e
      subst e
      exact (List.prefix_cons_inj _).mpr (lcpW_right a b)
    · exact List.nil_prefix
theorem lcpW_great : ∀ {p a b : List Bool}, p <+: a → p <+: b → p <+: lcpW a b
  | [], _, _, _, _ => List.nil_prefix
  | c :: p, a, b, h1, h2 => by
    obtain ⟨r, rfl⟩ := h1
    obtain ⟨s, rfl⟩ := h2
    simp only [List.cons_append]
    rw [lcpW_cons, if_pos rfl]
    exact (List.prefix_cons_inj _).mpr (lcpW_great ⟨r, rfl⟩ ⟨s, rfl⟩)
theorem pre_antisymm {p q : List Bool} (h : p <+: q) (k : q <+: p) : p = q := h.eq_of_length (Nat.le_antisymm h.length_le k.length_le)
/-- p is the longest common beginning of all that R tells -/
def IsSure (R : List Bool → List Bool) (p : List Bool) : Prop := (∀ v, p <+: R v) ∧ ∀ p', (∀ v, p' <+: R v) → p' <+: p
theorem IsSure.uniq {R : List Bool → List Bool} {p q : List Bool} (h : IsSure R p) (k : IsSure R q) : p = q := pre_antisymm (k.2 p h.1) (h.2 q k.1)
theorem pre_drop {p a : List Bool} (h : p <+: a) : p ++ a.drop p.length = a := by
  obtain ⟨r, rfl⟩ := h
  simp
theorem pre_cases {p w r : List Bool} (h : p <+: w ++ r) : p <+: w ∨ ∃ p', p = w ++ p' ∧ p' <+: r := by
  rcases Nat.le_total p.length w.length with l | l
  · left
    exact List.prefix_of_prefix_length_le h (List.prefix_append ..) l
  · right
    have hw : w <+: p := List.prefix_of_prefix_length_le (List.prefix_append ..) h l
    obtain ⟨p', rfl⟩ := hw
    exact ⟨p', rfl, (List.prefix_append_right_inj w).mp h⟩
end DL
namespace DL
--plain
/-! ### machines, told by functions -/
structure Sy where
  w : Nat → Bool → List Bool
  g : Nat → Bool → Nat
  e : Nat → List Bool
namespace Sy
/-- what is written from a state on -/
def run (S : Sy) : Nat → List Bool → List Bool
  | s, [] => S.e s
  | s, t :: v => S.w s t ++ run S (S.g s t) v
/-- the state behind a road, and what is written to it -/
def st (S : Sy) : Nat → List Bool → Nat
  | s, [] => s
  | s, t :: v => st S (S.g s t) v
def out (S : Sy) : Nat → List Bool → List Bool
  | _, [] => []
  | s, t :: v => S.w s t ++ out S (S.g s t) v
theorem run_out (S : Sy) : ∀ (u v : List Bool) (s : Nat), S.run s (u ++ v) = S.out s u ++ S.run (S.st s u) v
  | [], v, s => rfl
  | t :: u, v, s => by
    show S.w s t ++ S.run _ (u ++ v) = _
    rw [run_out S u v, ← List.append_assoc]
    rfl
theorem st_app (S : Sy) : ∀ (u v : List Bool) (s : Nat), S.st s (u ++ v) = S.st (S.st s u) v
  | [], _, _ => rfl
  | _ :: u, v, _ => st_app S u v _
theorem out_app (S : Sy) : ∀ (u v : List Bool) (s : Nat), S.out s (u ++ v) = S.out s u ++ S.out (S.st s u) v
  | [], _, _ => rfl
  | t :: u, v, s => by
    show S.w s t ++ S.out _ (u ++ v) = _
    rw [out_app S u v, ← List.append_assoc]
    rfl
/-! ### sure words -/
def newS (S : Sy) (σ : Nat → List Bool) (s : Nat) : List Bool := lcpW (lcpW (σ s) (S.w s false ++ σ (S.g s false))) (S.w s true ++ σ (S.g s true))
def upd (σ : Nat → List Bool) (s : Nat) (x : List Bool) : Nat → List Bool := fun y => if y = s then x else σ y
def passOne (S : Sy) (z : (Nat → List Bool) × Bool) (s : Nat) : (Nat → List Bool) × Bool :=
  if S.newS z.1 s = z.1 s then z else (upd z.1 s (S.newS z.1 s), true)
def pass (S : Sy) (states : List Nat) (σ : Nat → List Bool) : (Nat → List Bool) × Bool := states.foldl (passOne S) (σ, false)
theorem newS_pre (S : Sy) (σ : Nat → List Bool) (s : Nat) : S.newS σ s <+: σ s := (lcpW_left _ _).trans (lcpW_left _ _)
theorem upd_same {σ : Nat → List Bool} {s : Nat} {x : List Bool} : upd σ s x s = x := if_pos rfl
theorem upd_ne {σ : Nat → List Bool} {s y : Nat} {x : List Bool} (h : y ≠ s) : upd σ s x y = σ y := if_neg h
theorem passOne_pre (S : Sy) (z : (Nat → List Bool) × Bool) (s y : Nat) : (S.passOne z s).1 y <+: z.1 y := by
  unfold passOne
  split
  · exact List.prefix_refl _
  · by_cases e : y = s
    · subst e
      simp only [upd_same]
      exact newS_pre S z.1 y
    · simp only [upd_ne e]
      exact List.prefix_refl _
theorem foldl_pre (S : Sy) : ∀ (states : List Nat) (z : (Nat → List Bool) × Bool) (y : Nat), (states.foldl (passOne S) z).1 y <+: z.1 y
  | [], z, y => List.prefix_refl _
  | s :: r, z, y => (foldl_pre S r (S.passOne z s) y).trans (passOne_pre S z s y)
theorem passOne_flag (S : Sy) (z : (Nat → List Bool) × Bool) (s : Nat) (h : (S.passOne z s).2 = false) : S.passOne z s = z ∧ S.newS z.1 s = z.1 s := by
  unfold passOne at h ⊢
  split at h
  · rename_i e
    exact ⟨if_pos e, e⟩
  · cases h
theorem foldl_flag (S : Sy) : ∀ (states : List Nat) (z : (Nat → List Bool) × Bool), (states.foldl (passOne S) z).2 = false → z.2 = false ∧ (states.foldl (passOne S) z) = z ∧ ∀ s ∈ states, S.newS z.1 s = z.1 s
  | [], z, h => ⟨h, rfl, by simp⟩
  | s :: r, z, h => by
    obtain ⟨h1, h2, h3⟩ := foldl_flag S r (S.passOne z s) h
    obtain ⟨e1, e2⟩ := passOne_flag S z s h1
    rw [e1] at h1 h2 h3
    refine ⟨h1, ?_, fun y hy => ?_⟩
    · rw [List.foldl_cons, e1]
      exact h2
    · rcases List.mem_cons.mp hy with rfl | hy
      · exact e2
      · exact h3 y hy
/-- the sum of lengths -/
def total (states : List Nat) (σ : Nat → List Bool) : Nat := (states.map fun s => (σ s).length).sum
theorem total_le {states : List Nat} {σ τ : Nat → List Bool} (h : ∀ s, τ s <+: σ s) : total states τ ≤ total states σ := by
  induction states with
  | nil => exact Nat.le_refl _
  | cons s r ih =>
    simp only [total, List.map_cons, List.sum_cons] at ih ⊢
    have := (h s).length_le
    omega
theorem total_lt {states : List Nat} {σ τ : Nat → List Bool} (h : ∀ s, τ s <+: σ s) {s : Nat} (hs : s ∈ states) (l : (τ s).length < (σ s).length) : total states τ < total states σ := by
  induction states with
  | nil => cases hs
  | cons y r ih =>
    have k := total_le (states := r) h
    have := (h y).length_le
    simp only [total, List.map_cons, List.sum_cons] at ih k ⊢
    rcases List.mem_cons.mp hs with rfl | hs
    · omega
    · have := ih hs
      omega
theorem newS_lt {S : Sy} {σ : Nat → List Bool} {s : Nat} (h : S.newS σ s ≠ σ s) : (S.newS σ s).length < (σ s).length := by
  have p := newS_pre S σ s
  rcases Nat.lt_or_eq_of_le p.length_le with l | l
  · exact l
  · exact absurd (p.eq_of_length l) h
theorem foldl_total (S : Sy) (all : List Nat) : ∀ (states : List Nat) (z : (Nat → List Bool) × Bool), (∀ s ∈ states, s ∈ all) → z.2 = false → (states.foldl (passOne S) z).2 = true → total all (states.foldl (passOne S) z).1 < total all z.1
  | [], z, _, h, k => by rw [List.foldl_nil, h] at k; cases k
  | s :: r, z, m, h, k => by
    by_cases e : S.newS z.1 s = z.1 s
    · have e1 : S.passOne z s = z := if_pos e
      rw [List.foldl_cons, e1] at k ⊢
      exact foldl_total S all r z (fun y hy => m y (List.mem_cons_of_mem _ hy)) h k
    · have e1 : S.passOne z s = (upd z.1 s (S.newS z.1 s), true) := if_neg e
      rw [List.foldl_cons]
      have a := foldl_pre S r (S.passOne z s)
      refine Nat.lt_of_le_of_lt (total_le a) ?_
      rw [e1]
      refine total_lt (fun y => ?_) (m s (List.mem_cons_self ..)) (by show (upd z.1 s _ s).length < _; rw [upd_same]; exact newS_lt e)
      have := passOne_pre S z s y
      rw [e1] at this
      exact this
/-- passes until one changes nothing -/
def sureGo (S : Sy) (states : List Nat) : Nat → (Nat → List Bool) → (Nat → List Bool)
  | 0, σ => σ
  | n + 1, σ => if (S.pass states σ).2 = true then sureGo S states n (S.pass states σ).1 else σ
theorem pass_flag {S : Sy} {states : List Nat} {σ : Nat → List Bool} (h : ¬ (S.pass states σ).2 = true) : (S.pass states σ).1 = σ ∧ ∀ s ∈ states, S.newS σ s = σ s := by
  obtain ⟨_, h2, h3⟩ := foldl_flag S states (σ, false) (by simpa [pass] using h)
  exact ⟨by unfold pass; rw [h2], h3⟩
theorem pass_total {S : Sy} {states : List Nat} {σ : Nat → List Bool} (h : (S.pass states σ).2 = true) : total states (S.pass states σ).1 < total states σ :=
  foldl_total S states states (σ, false) (fun _ h => h) rfl h
theorem sureGo_fix (S : Sy) (states : List Nat) : ∀ (n : Nat) (σ : Nat → List Bool), total states σ < n → ∀ s ∈ states, S.newS (sureGo S states n σ) s = sureGo S states n σ s
  | 0, σ, h => by omega
  | n + 1, σ, h => by
    unfold sureGo
    split
    · rename_i c
      exact sureGo_fix S states n _ (by have := pass_total c; omega)
    · rename_i c
      exact (pass_flag c).2
/-- a common beginning stays one -/
def Keeps (S : Sy) (states : List Nat) (σ : Nat → List Bool) : Prop := ∀ s ∈ states, ∀ p, (∀ v, p <+: S.run s v) → p <+: σ s
def Closed (S : Sy) (states : List Nat) : Prop := ∀ s ∈ states, ∀ t, S.g s t ∈ states
theorem keep_move {S : Sy} {states : List Nat} {σ : Nat → List Bool} (hc : S.Closed states) (h : S.Keeps states σ) {s : Nat} (hs : s ∈ states) {p : List Bool} (hp : ∀ v, p <+: S.run s v) (t : Bool) : p <+: S.w s t ++ σ (S.g s t) := by
  rcases pre_cases (hp [t]) with k | ⟨p', rfl, _⟩
  · exact k.trans (List.prefix_append ..)
  · refine (List.prefix_append_right_inj _).mpr (h _ (hc s hs t) p' fun v => ?_)
    have := hp (t :: v)
    exact (List.prefix_append_right_inj _).mp this
theorem keep_one {S : Sy} {states : List Nat} {z : (Nat → List Bool) × Bool} (hc : S.Closed states) (h : S.Keeps states z.1) {s : Nat} (hs : s ∈ states) : S.Keeps states (S.passOne z s).1 := by
  unfold passOne
  split
  · exact h
  · intro y hy p hp
    by_cases e : y = s
    · subst e
      simp only [upd_same]
      exact lcpW_great (lcpW_great (h y hy p hp) (keep_move hc h hy hp false)) (keep_move hc h hy hp true)
    · simp only [upd_ne e]
      exact h y hy p hp
theorem keep_fold {S : Sy} {all : List Nat} (hc : S.Closed all) : ∀ (states : List Nat) (z : (Nat → List Bool) × Bool), (∀ s ∈ states, s ∈ all) → S.Keeps all z.1 → S.Keeps all (states.foldl (passOne S) z).1
  | [], _, _, h => h
  | s :: r, z, m, h => keep_fold hc r _ (fun y hy => m y (List.mem_cons_of_mem _ hy)) (keep_one hc h (m s (List.mem_cons_self ..)))
theorem keep_go {S : Sy} {states : List Nat} (hc : S.Closed states) : ∀ (n : Nat) (σ : Nat → List Bool), S.Keeps states σ → S.Keeps states (sureGo S states n σ)
  | 0, _, h => h
  | n + 1, σ, h => by
    unfold sureGo
    split
    · exact keep_go hc n _ (keep_fold hc states (σ, false) (fun _ h => h) h)
    · exact h
theorem pre_go (S : Sy) (states : List Nat) : ∀ (n : Nat) (σ : Nat → List Bool) (s : Nat), sureGo S states n σ s <+: σ s
  | 0, _, _ => List.prefix_refl _
  | n + 1, σ, s => by
    unfold sureGo
    split
    · exact (pre_go S states n _ s).trans (foldl_pre S states (σ, false) s)
    · exact List.prefix_refl _
/-- where nothing changes, what is told is common -/
theorem fix_pre {S : Sy} {states : List Nat} {σ : Nat → List Bool} (hc : S.Closed states) (he : ∀ s, σ s <+: S.e s) (h : ∀ s ∈ states, S.newS σ s = σ s) : ∀ (v : List Bool) (s : Nat), s ∈ states → σ s <+: S.run s v
  | [], s, _ => he s
  | t :: v, s, hs => by
    have ih := fix_pre hc he h v _ (hc s hs t)
    refine List.IsPrefix.trans ?_ ((List.prefix_append_right_inj (S.w s t)).mpr ih)
    rw [← h s hs]
    cases t
    · exact (lcpW_left _ _).trans (lcpW_right _ _)
    · exact lcpW_right _ _
def sureOf (S : Sy) (states : List Nat) : Nat → List Bool := sureGo S states (total states S.e + 1) S.e
theorem sure_is {S : Sy} {states : List Nat} (hc : S.Closed states) {s : Nat} (hs : s ∈ states) : IsSure (S.run s) (S.sureOf states s) := by
  refine ⟨fun v => fix_pre hc (pre_go S states _ _) (sureGo_fix S states _ _ (Nat.lt_succ_self _)) v s hs, fun p hp => ?_⟩
  exact keep_go hc _ _ (fun y _ q hq => hq []) s hs p hp
/-- what is written as soon as it is sure -/
def onw (S : Sy) (σ : Nat → List Bool) : Sy where
  w := fun s t => (S.w s t ++ σ (S.g s t)).drop (σ s).length
  g := S.g
  e := fun s => (S.e s).drop (σ s).length
theorem onw_run {S : Sy} {states : List Nat} {σ : Nat → List Bool} (hc : S.Closed states) (hσ : ∀ s ∈ states, IsSure (S.run s) (σ s)) : ∀ (v : List Bool) (s : Nat), s ∈ states → σ s ++ (S.onw σ).run s v = S.run s v
  | [], s, hs => pre_drop ((hσ s hs).1 [])
  | t :: v, s, hs => by
    have ih := onw_run hc hσ v _ (hc s hs t)
    have g := hc s hs t
    have pw : σ s <+: S.w s t ++ σ (S.g s t) := by
      refine keep_move (σ := σ) hc (fun y hy p hp => (hσ y hy).2 p hp) hs (hσ s hs).1 t
    show σ s ++ ((S.w s t ++ σ (S.g s t)).drop (σ s).length ++ (S.onw σ).run (S.g s t) v) = S.w s t ++ S.run (S.g s t) v
    rw [← List.append_assoc, pre_drop pw, List.append_assoc, ih]
/-- nothing is sure any more -/
def Onward (S : Sy) (states : List Nat) : Prop := ∀ s ∈ states, IsSure (S.run s) []
theorem onw_onward {S : Sy} {states : List Nat} {σ : Nat → List Bool} (hc : S.Closed states) (hσ : ∀ s ∈ states, IsSure (S.run s) (σ s)) : (S.onw σ).Onward states := fun s hs => by
  refine ⟨fun v => List.nil_prefix, fun p hp => ?_⟩
  have : σ s ++ p <+: σ s := (hσ s hs).2 _ fun v => by
    rw [← onw_run hc hσ v s hs]
    exact (List.prefix_append_right_inj _).mpr (hp v)
  have l := this.length_le
  rw [List.length_append] at l
  have : p = [] := List.eq_nil_of_length_eq_zero (by omega)
  rw [this]
  exact List.prefix_refl _
/-- the word at a turn is what is sure then -/
theorem Onward.word {S : Sy} {states : List Nat} (h : S.Onward states) (hc : S.Closed states) {s : Nat} (hs : s ∈ states) (t : Bool) : IsSure (fun v => S.run s (t :: v)) (S.w s t) := by
  refine ⟨fun v => List.prefix_append .., fun p hp => ?_⟩
  rcases pre_cases (hp []) with k | ⟨p', rfl, _⟩
  · exact k
  · have : p' <+: [] := (h _ (hc s hs t)).2 p' fun v => (List.prefix_append_right_inj _).mp (hp v)
    have : p' = [] := List.prefix_nil.mp this
    rw [this, List.append_nil]
    exact List.prefix_refl _
/-- states that write the same move alike -/
theorem same_move {S T : Sy} {xs ys : List Nat} (h : S.Onward xs) (hc : S.Closed xs) (k : T.Onward ys) (kc : T.Closed ys) {s y : Nat} (hs : s ∈ xs) (hy : y ∈ ys) (e : ∀ v, S.run s v = T.run y v) (t : Bool) :
    S.w s t = T.w y t ∧ ∀ v, S.run (S.g s t) v = T.run (T.g y t) v := by
  have e1 : S.w s t = T.w y t := by
    refine (h.word hc hs t).uniq ?_
    have := k.word kc hy t
    have f : (fun v => T.run y (t :: v)) = fun v => S.run s (t :: v) := by funext v; rw [e]
    rw [f] at this
    exact this
  refine ⟨e1, fun v => ?_⟩
  have := e (t :: v)
  have : S.w s t ++ S.run (S.g s t) v = T.w y t ++ T.run (T.g y t) v := this
  rw [e1] at this
  exact List.append_cancel_left this
end Sy
end DL
namespace DL
--plain
/-! ### things in the order in which they come first -/
def addL {α : Type} [DecidableEq α] (l : List α) (x : α) : List α := if x ∈ l then l else l ++ [x]
def ded {α : Type} [DecidableEq α] (xs : List α) : List α := xs.foldl addL []
section
variable {α : Type} [DecidableEq α]
theorem addL_mem (l : List α) (x : α) : x ∈ addL l x := by
  unfold addL
  split
  · assumption
  · simp
theorem addL_pre (l : List α) (x : α) : l <+: addL l x := by
  unfold addL
  split
  · exact List.prefix_refl _
  · exact List.prefix_append ..
theorem addL_nodup {l : List α} {x : α} (h : l.Nodup) : (addL l x).Nodup := by
  unfold addL
  split
  · exact h
  · rename_i n
    exact List.nodup_append.mpr ⟨h, by simp, fun a ha b hb => by simp at hb; subst hb; exact fun e => n (e ▸ ha)⟩
theorem addL_sub {l : List α} {x y : α} (h : y ∈ addL l x) : y ∈ l ∨ y = x := by
  unfold addL at h
  split at h
  · exact .inl h
  · simpa using h
theorem ded_go (xs : List α) : ∀ (l : List α), l.Nodup → (xs.foldl addL l).Nodup ∧ l <+: xs.foldl addL l ∧ ∀ y, y ∈ xs.foldl addL l ↔ y ∈ l ∨ y ∈ xs := by
  induction xs with
  | nil => intro l h; exact ⟨h, List.prefix_refl _, fun y => by simp⟩
  | cons x xs ih =>
    intro l h
    obtain ⟨a, b, c⟩ := ih (addL l x) (addL_nodup h)
    refine ⟨a, (addL_pre l x).trans b, fun y => ?_⟩
    show y ∈ xs.foldl addL (addL l x) ↔ _
    rw [c]
    constructor
    · rintro (h1 | h1)
      · rcases addL_sub h1 with h2 | rfl
        · exact .inl h2
        · exact .inr (List.mem_cons_self ..)
      · exact .inr (List.mem_cons_of_mem _ h1)
    · rintro (h1 | h1)
      · exact .inl ((addL_pre l x).subset h1)
      · rcases List.mem_cons.mp h1 with rfl | h1
        · exact .inl (addL_mem l y)
        · exact .inr h1
theorem ded_nodup (xs : List α) : (ded xs).Nodup := (ded_go xs [] (by simp)).1
theorem ded_mem {xs : List α} {y : α} : y ∈ ded xs ↔ y ∈ xs := by
  have := (ded_go xs [] (by simp)).2.2 y
  simpa [ded] using this
theorem idx_inj {l : List α} {x y : α} (hx : x ∈ l) (hy : y ∈ l) (h : l.idxOf x = l.idxOf y) : x = y := by
  have a := List.idxOf_lt_length_of_mem hx
  have b := List.idxOf_lt_length_of_mem hy
  have e1 : l[l.idxOf x] = x := List.getElem_idxOf a
  have e2 : l[l.idxOf y] = y := List.getElem_idxOf b
  rw [← e1, ← e2]
  simp only [h]
theorem nodup_len : ∀ {l m : List α}, l.Nodup → (∀ x ∈ l, x ∈ m) → l.length ≤ m.length
  | [], _, _, _ => Nat.zero_le _
  | x :: l, m, hn, h => by
    have hx : x ∈ m := h x (List.mem_cons_self ..)
    obtain ⟨n1, n2⟩ := List.nodup_cons.mp hn
    have := nodup_len (l := l) (m := m.erase x) n2 fun y hy => (List.mem_erase_of_ne (by rintro rfl; exact n1 hy)).mpr (h y (List.mem_cons_of_mem _ hy))
    rw [List.length_erase_of_mem hx] at this
    have p : 0 < m.length := List.length_pos_of_mem hx
    rw [List.length_cons]
    omega
/-- the number of a state's class -/
def clsOf (κ : Nat → α) (states : List Nat) (s : Nat) : Nat := (ded (states.map κ)).idxOf (κ s)
def clsN (κ : Nat → α) (states : List Nat) : Nat := (ded (states.map κ)).length
theorem cls_iff {κ : Nat → α} {states : List Nat} {s t : Nat} (hs : s ∈ states) (ht : t ∈ states) : clsOf κ states s = clsOf κ states t ↔ κ s = κ t := by
  refine ⟨fun h => idx_inj (ded_mem.mpr (List.mem_map_of_mem hs)) (ded_mem.mpr (List.mem_map_of_mem ht)) h, fun h => ?_⟩
  unfold clsOf
  rw [h]
theorem clsN_le (κ : Nat → α) (states : List Nat) : clsN κ states ≤ states.length := by
  have := nodup_len (ded_nodup (states.map κ)) fun x hx => ded_mem.mp hx
  rwa [List.length_map] at this
theorem clsN_pos {κ : Nat → α} {states : List Nat} {s : Nat} (h : s ∈ states) : 0 < clsN κ states := List.length_pos_of_mem (ded_mem.mpr (List.mem_map_of_mem h))
end
/-- a state for each class -/
theorem reps_of {α : Type} [DecidableEq α] (κ : Nat → α) (states : List Nat) : ∃ rs : List Nat, rs.map κ = ded (states.map κ) ∧ ∀ r ∈ rs, r ∈ states := by
  have reps : ∀ ks : List α, (∀ k ∈ ks, k ∈ ded (states.map κ)) → ∃ rs : List Nat, rs.map κ = ks ∧ ∀ r ∈ rs, r ∈ states := by
    intro ks
    induction ks with
    | nil => intro _; exact ⟨[], rfl, by simp⟩
    | cons k ks ih =>
      intro h
      obtain ⟨rs, e, m⟩ := ih fun x hx => h x (List.mem_cons_of_mem _ hx)
      obtain ⟨s, hs, es⟩ := List.mem_map.mp (ded_mem.mp (h k (List.mem_cons_self ..)))
      refine ⟨s :: rs, by rw [List.map_cons, es, e], fun r hr => ?_⟩
      rcases List.mem_cons.mp hr with rfl | hr
      · exact hs
      · exact m r hr
  exact reps _ fun _ h => h
theorem reps_nodup {α β : Type} {κ : Nat → α} {l : Nat → β} {states rs : List Nat} (fine : ∀ s ∈ states, ∀ t ∈ states, l s = l t → κ s = κ t) (h : (rs.map κ).Nodup) (m : ∀ r ∈ rs, r ∈ states) : (rs.map l).Nodup := by
  have : rs.Pairwise fun a b => κ a ≠ κ b := List.pairwise_map.mp h
  exact List.pairwise_map.mpr (List.Pairwise.imp_of_mem (fun {a b} ha hb ne e => ne (fine a (m a ha) b (m b hb) e)) this)
theorem fine_le {α β : Type} [DecidableEq α] [DecidableEq β] {κ : Nat → α} {l : Nat → β} {states : List Nat} (fine : ∀ s ∈ states, ∀ t ∈ states, l s = l t → κ s = κ t) : clsN κ states ≤ clsN l states := by
  obtain ⟨rs, er, mr⟩ := reps_of κ states
  have nd := reps_nodup fine (by rw [er]; exact ded_nodup _) mr
  have := nodup_len nd (m := ded (states.map l)) fun x hx => by
    obtain ⟨r, hr, rfl⟩ := List.mem_map.mp hx
    exact ded_mem.mpr (List.mem_map_of_mem (mr r hr))
  have e := congrArg List.length er
  rw [List.length_map] at this e
  unfold clsN
  omega
theorem map_inj {α : Type} {κ : Nat → α} : ∀ xs : List Nat, (xs.map κ).Nodup → ∀ r ∈ xs, ∀ r' ∈ xs, κ r = κ r' → r = r' := by
  intro xs
  induction xs with
  | nil => intro _ r hr; cases hr
  | cons x xs ih =>
    intro h r hr r' hr' e
    rw [List.map_cons] at h
    obtain ⟨n1, n2⟩ := List.nodup_cons.mp h
    rcases List.mem_cons.mp hr with h1 | h1
    · rcases List.mem_cons.mp hr' with h2 | h2
      · rw [h1, h2]
      · rw [h1] at e
        exact absurd (e ▸ List.mem_map_of_mem h2) n1
    · rcases List.mem_cons.mp hr' with h2 | h2
      · rw [h2] at e
        exact absurd (e ▸ List.mem_map_of_mem h1) n1
      · exact ih n2 r h1 r' h2 e
/-- a finer parting with as many classes is the same -/
theorem same_classes {α β : Type} [DecidableEq α] [DecidableEq β] {κ : Nat → α} {l : Nat → β} {states : List Nat} (fine : ∀ s ∈ states, ∀ t ∈ states, l s = l t → κ s = κ t) (hn : clsN κ states = clsN l states) :
    ∀ s ∈ states, ∀ t ∈ states, κ s = κ t → l s = l t := by
  obtain ⟨rs, er, mr⟩ := reps_of κ states
  have nd : (rs.map κ).Nodup := by rw [er]; exact ded_nodup _
  have ndl := reps_nodup fine nd mr
  -- if two states of a class were parted, there would be more classes
  have key : ∀ s ∈ states, l s ∈ rs.map l := fun s hs => Classical.byContradiction fun n => by
    have := nodup_len (l := l s :: rs.map l) (m := ded (states.map l)) (List.nodup_cons.mpr ⟨n, ndl⟩) fun x hx => by
      rcases List.mem_cons.mp hx with rfl | hx
      · exact ded_mem.mpr (List.mem_map_of_mem hs)
      · obtain ⟨r, hr, rfl⟩ := List.mem_map.mp hx
        exact ded_mem.mpr (List.mem_map_of_mem (mr r hr))
    have e : rs.length = clsN κ states := by
      have := congrArg List.length er
      rwa [List.length_map] at this
    rw [List.length_cons, List.length_map, e, hn] at this
    unfold clsN at this
    omega
  intro s hs t ht e
  obtain ⟨r, hr, e1⟩ := List.mem_map.mp (key s hs)
  obtain ⟨r', hr', e2⟩ := List.mem_map.mp (key t ht)
  have k1 := fine r (mr r hr) s hs e1
  have k2 := fine r' (mr r' hr') t ht e2
  have := map_inj rs nd r hr r' hr' (by rw [k1, k2, e])
  rw [← e1, ← e2, this]
namespace Sy
/-- a key of a state: its words, or the classes of it and of the states behind both turns -/
inductive K where
  | ws (l r e : List Bool)
  | ns (a b c : Nat)
deriving DecidableEq
def key0 (S : Sy) (s : Nat) : K := .ws (S.w s false) (S.w s true) (S.e s)
def keyN (S : Sy) (f : Nat → Nat) (s : Nat) : K := .ns (f s) (f (S.g s false)) (f (S.g s true))
def clsGo (S : Sy) (states : List Nat) : Nat → Nat → (Nat → K) → (Nat → Nat)
  | 0, _, κ => clsOf κ states
  | n + 1, many, κ => if clsN κ states = many then clsOf κ states else clsGo S states n (clsN κ states) (S.keyN (clsOf κ states))
/-- states alike for so many turns -/
def eqn (S : Sy) : Nat → Nat → Nat → Prop
  | 0, s, t => S.w s false = S.w t false ∧ S.w s true = S.w t true ∧ S.e s = S.e t
  | n + 1, s, t => eqn S n s t ∧ eqn S n (S.g s false) (S.g t false) ∧ eqn S n (S.g s true) (S.g t true)
theorem eqn_run (S : Sy) : ∀ (v : List Bool) (s t : Nat), (∀ n, S.eqn n s t) → S.run s v = S.run t v
  | [], s, t, h => (h 0).2.2
  | b :: v, s, t, h => by
    have h0 := h 0
    have ih := eqn_run S v (S.g s b) (S.g t b) fun n => by
      have := h (n + 1)
      cases b
      · exact this.2.1
      · exact this.2.2
    show S.w s b ++ _ = S.w t b ++ _
    rw [ih]
    cases b
    · rw [h0.1]
    · rw [h0.2.1]
theorem run_eqn {S : Sy} {states : List Nat} (ho : S.Onward states) (hc : S.Closed states) : ∀ (n : Nat) {s t : Nat}, s ∈ states → t ∈ states → (∀ v, S.run s v = S.run t v) → S.eqn n s t
  | 0, s, t, hs, ht, h => ⟨(same_move ho hc ho hc hs ht h false).1, (same_move ho hc ho hc hs ht h true).1, h []⟩
  | n + 1, s, t, hs, ht, h => ⟨run_eqn ho hc n hs ht h, run_eqn ho hc n (hc s hs _) (hc t ht _) (same_move ho hc ho hc hs ht h false).2, run_eqn ho hc n (hc s hs _) (hc t ht _) (same_move ho hc ho hc hs ht h true).2⟩
theorem eqn_stable {S : Sy} {states : List Nat} (hc : S.Closed states) {n : Nat} (h : ∀ s ∈ states, ∀ t ∈ states, S.eqn n s t → S.eqn (n + 1) s t) : ∀ (k : Nat), ∀ s ∈ states, ∀ t ∈ states, S.eqn n s t → S.eqn (n + k) s t
  | 0, s, _, t, _, e => e
  | k + 1, s, hs, t, ht, e => by
    have up := h s hs t ht e
    exact ⟨eqn_stable hc h k s hs t ht e, eqn_stable hc h k _ (hc s hs _) _ (hc t ht _) up.2.1, eqn_stable hc h k _ (hc s hs _) _ (hc t ht _) up.2.2⟩
theorem eqn_down (S : Sy) : ∀ (n k : Nat) {s t : Nat}, S.eqn (n + k) s t → S.eqn n s t
  | n, 0, _, _, h => h
  | n, k + 1, _, _, h => eqn_down S n k h.1
/-- the classes found are those of states that write the same -/
theorem clsGo_ok {S : Sy} {states : List Nat} (hc : S.Closed states) (h0 : ∃ s, s ∈ states) : ∀ (n : Nat) (many : Nat) (κ : Nat → K) (j : Nat), states.length < n + many → (∀ s ∈ states, ∀ t ∈ states, κ s = κ t ↔ S.eqn j s t) →
    (many = 0 ∨ ∃ (i : Nat) (p : Nat → K), j = i + 1 ∧ clsN p states = many ∧ ∀ s ∈ states, ∀ t ∈ states, p s = p t ↔ S.eqn i s t) → many ≤ clsN κ states →
    ∀ s ∈ states, ∀ t ∈ states, clsGo S states n many κ s = clsGo S states n many κ t ↔ (∀ k, S.eqn k s t)
  | 0, many, κ, j, l, _, _, hle, s, hs, t, ht => by
    have := clsN_le κ states
    omega
  | n + 1, many, κ, j, l, hκ, hst, hle, s, hs, t, ht => by
    obtain ⟨s0, hs0⟩ := h0
    have pos := clsN_pos (κ := κ) hs0
    unfold clsGo
    split
    · rename_i c
      rw [cls_iff hs ht, hκ s hs t ht]
      refine ⟨fun e k => ?_, fun h => h j⟩
      rcases hst with rfl | ⟨i, p, rfl, hp, hpi⟩
      · omega
      · have st : ∀ s ∈ states, ∀ t ∈ states, S.eqn i s t → S.eqn (i + 1) s t := fun s hs t ht e => by
          have := same_classes (κ := p) (l := κ) (states := states) (fun a ha b hb z => (hpi a ha b hb).mpr ((hκ a ha b hb).mp z).1) (by rw [hp, c]) s hs t ht ((hpi s hs t ht).mpr e)
          exact (hκ s hs t ht).mp this
        have big := eqn_stable hc st k s hs t ht e.1
        rw [Nat.add_comm] at big
        exact eqn_down S k i big
    · rename_i c
      have hκ' : ∀ s ∈ states, ∀ t ∈ states, S.keyN (clsOf κ states) s = S.keyN (clsOf κ states) t ↔ S.eqn (j + 1) s t := fun s hs t ht => by
        unfold keyN
        rw [K.ns.injEq, cls_iff hs ht, cls_iff (hc s hs _) (hc t ht _), cls_iff (hc s hs _) (hc t ht _), hκ s hs t ht, hκ _ (hc s hs _) _ (hc t ht _), hκ _ (hc s hs _) _ (hc t ht _)]
        exact Iff.rfl
      refine clsGo_ok hc ⟨s0, hs0⟩ n (clsN κ states) (S.keyN (clsOf κ states)) (j + 1) (by omega) hκ' (.inr ⟨j, κ, rfl, rfl, hκ⟩) ?_ s hs t ht
      exact fine_le fun a ha b hb z => (hκ a ha b hb).mpr ((hκ' a ha b hb).mp z).1
def clsAll (S : Sy) (states : List Nat) : Nat → Nat := clsGo S states (states.length + 1) 0 S.key0
theorem cls_ok {S : Sy} {states : List Nat} (ho : S.Onward states) (hc : S.Closed states) {s t : Nat} (hs : s ∈ states) (ht : t ∈ states) : S.clsAll states s = S.clsAll states t ↔ ∀ v, S.run s v = S.run t v := by
  rw [clsAll, clsGo_ok hc ⟨s, hs⟩ _ 0 S.key0 0 (by omega) (fun a _ b _ => by unfold key0; rw [K.ws.injEq]; exact Iff.rfl) (.inl rfl) (Nat.zero_le _) s hs t ht]
  exact ⟨fun h v => eqn_run S v s t h, fun h k => run_eqn ho hc k hs ht h⟩
/-! ### the states that can be come to -/
def reachGo (S : Sy) : Nat → List Nat → Nat → List Nat
  | 0, f, _ => f
  | n + 1, f, k => match f[k]? with
    | none => f
    | some s => reachGo S n (addL (addL f (S.g s false)) (S.g s true)) (k + 1)
def reach (S : Sy) (bound : Nat) : List Nat := reachGo S (bound + 1) [0] 0
theorem reachGo_ok (S : Sy) (B : Nat) (hB : ∀ s t, s < B → S.g s t < B) : ∀ (n : Nat) (f : List Nat) (k : Nat), f.Nodup → (∀ s ∈ f, s < B) → B < n + k → k ≤ f.length → (∀ i s, i < k → f[i]? = some s → ∀ t, S.g s t ∈ f) → (∀ s ∈ f, ∃ u, S.st 0 u = s) →
    (reachGo S n f k).Nodup ∧ (∀ s ∈ reachGo S n f k, s < B) ∧ S.Closed (reachGo S n f k) ∧ (∀ s ∈ reachGo S n f k, ∃ u, S.st 0 u = s) ∧ f <+: reachGo S n f k
  | 0, f, k, hn, hb, l, hk, _, _ => by
    have := nodup_len hn (m := List.range B) fun x hx => List.mem_range.mpr (hb x hx)
    rw [List.length_range] at this
    omega
  | n + 1, f, k, hn, hb, l, hk, hc, hu => by
    unfold reachGo
    cases e : f[k]? with
    | none =>
      have := List.getElem?_eq_none_iff.mp e
      simp only
      refine ⟨hn, hb, fun s hs t => ?_, hu, List.prefix_refl _⟩
      obtain ⟨i, hi⟩ := List.getElem?_of_mem hs
      exact hc i s (by have := (List.getElem?_eq_some_iff.mp hi).1; omega) hi t
    | some s =>
      simp only
      have hs : s ∈ f := List.mem_of_getElem? e
      have p1 := addL_pre f (S.g s false)
      have p2 := addL_pre (addL f (S.g s false)) (S.g s true)
      have p := p1.trans p2
      have sub : ∀ y, y ∈ addL (addL f (S.g s false)) (S.g s true) → y ∈ f ∨ ∃ t, y = S.g s t := fun y hy => by
        rcases addL_sub hy with h | h
        · rcases addL_sub h with h | h
          · exact .inl h
          · exact .inr ⟨false, h⟩
        · exact .inr ⟨true, h⟩
      obtain ⟨a1, a2, a3, a4, a5⟩ := reachGo_ok S B hB n (addL (addL f (S.g s false)) (S.g s true)) (k + 1) (addL_nodup (addL_nodup hn)) (fun y hy => by
        rcases sub y hy with h | ⟨t, rfl⟩
        · exact hb y h
        · exact hB s t (hb s hs)) (by omega) (by
          have := (List.getElem?_eq_some_iff.mp e).1
          have := p.length_le
          omega) (fun i y hi hy t => by
        have lf := (List.getElem?_eq_some_iff.mp e).1
        have hy' : f[i]? = some y := by
          obtain ⟨r, hr⟩ := p
          rw [← hr, List.getElem?_append_left (by omega)] at hy
          exact hy
        by_cases c : i < k
        · exact p.subset (hc i y c hy' t)
        · have : i = k := by omega
          subst this
          rw [e] at hy'
          cases hy'
          cases t
          · exact p2.subset (addL_mem f _)
          · exact addL_mem _ _) (fun y hy => by
        rcases sub y hy with h | ⟨t, rfl⟩
        · exact hu y h
        · obtain ⟨u, rfl⟩ := hu s hs
          exact ⟨u ++ [t], by rw [st_app]; rfl⟩)
      exact ⟨a1, a2, a3, a4, p.trans a5⟩
theorem reach_ok {S : Sy} {B : Nat} (h0 : 0 < B) (hB : ∀ s t, s < B → S.g s t < B) : (S.reach B).Nodup ∧ (∀ s ∈ S.reach B, s < B) ∧ S.Closed (S.reach B) ∧ (∀ s ∈ S.reach B, ∃ u, S.st 0 u = s) ∧ 0 ∈ S.reach B := by
  obtain ⟨a, b, c, d, e⟩ := reachGo_ok S B hB (B + 1) [0] 0 (by simp) (fun s hs => by simp at hs; omega) (by omega) (by simp) (fun i s h => by omega) (fun s hs => by simp at hs; subst hs; exact ⟨[], rfl⟩)
  exact ⟨a, b, c, d, e.subset (by simp)⟩
/-! ### the rows of the classes -/
abbrev MvN := List Bool × Nat
abbrev RowN := MvN × MvN × List Bool
/-- one row: found states, and the row -/
def numStep (S : Sy) (c : Nat → Nat) (f : List Nat) (s : Nat) : List Nat × RowN :=
  let f1 := if c (S.g s false) ∈ f.map c then f else f ++ [S.g s false]
  let f2 := if c (S.g s true) ∈ f1.map c then f1 else f1 ++ [S.g s true]
  (f2, (S.w s false, (f1.map c).idxOf (c (S.g s false))), (S.w s true, (f2.map c).idxOf (c (S.g s true))), S.e s)
def numGo (S : Sy) (c : Nat → Nat) : Nat → List Nat → List RowN → List Nat × List RowN
  | 0, f, ls => (f, ls)
  | n + 1, f, ls => match f[ls.length]? with
    | none => (f, ls)
    | some s => numGo S c n (numStep S c f s).1 (ls ++ [(numStep S c f s).2])
def numbered (S : Sy) (c : Nat → Nat) (bound : Nat) : List RowN := (numGo S c (bound + 1) [0] []).2
/-! two machines side by side -/
/-- the same class, in both -/
structure Twin (S T : Sy) (xs ys : List Nat) (c d : Nat → Nat) : Prop where
  ho : S.Onward xs
  hc : S.Closed xs
  ko : T.Onward ys
  kc : T.Closed ys
  cx : ∀ s ∈ xs, ∀ t ∈ xs, c s = c t ↔ ∀ v, S.run s v = S.run t v
  cy : ∀ s ∈ ys, ∀ t ∈ ys, d s = d t ↔ ∀ v, T.run s v = T.run t v
def Alike (S T : Sy) (s y : Nat) : Prop := ∀ v, S.run s v = T.run y v
inductive AlikeL (S T : Sy) (xs ys : List Nat) : List Nat → List Nat → Prop
  | nil : AlikeL S T xs ys [] []
  | cons {s y : Nat} {f g : List Nat} : s ∈ xs → y ∈ ys → Alike S T s y → AlikeL S T xs ys f g → AlikeL S T xs ys (s :: f) (y :: g)
section
variable {S T : Sy} {xs ys : List Nat} {c d : Nat → Nat}
theorem AlikeL.length : ∀ {f g : List Nat}, AlikeL S T xs ys f g → f.length = g.length
  | _, _, .nil => rfl
  | _, _, .cons _ _ _ h => congrArg Nat.succ h.length
theorem AlikeL.get : ∀ {f g : List Nat} {i : Nat}, AlikeL S T xs ys f g → (f[i]? = none ∧ g[i]? = none) ∨ ∃ s y, f[i]? = some s ∧ g[i]? = some y ∧ s ∈ xs ∧ y ∈ ys ∧ Alike S T s y
  | _, _, _, .nil => .inl ⟨by simp, by simp⟩
  | _, _, 0, .cons a b e _ => .inr ⟨_, _, rfl, rfl, a, b, e⟩
  | _, _, i + 1, .cons _ _ _ h => by simpa using h.get (i := i)
theorem AlikeL.app : ∀ {f g : List Nat} {s y : Nat}, AlikeL S T xs ys f g → s ∈ xs → y ∈ ys → Alike S T s y → AlikeL S T xs ys (f ++ [s]) (g ++ [y])
  | _, _, _, _, .nil, a, b, e => .cons a b e .nil
  | _, _, _, _, .cons a' b' e' h, a, b, e => .cons a' b' e' (h.app a b e)
/-- a class stands at the same place in both -/
theorem Twin.idx (Tw : Twin S T xs ys c d) : ∀ {f g : List Nat} {s y : Nat}, AlikeL S T xs ys f g → s ∈ xs → y ∈ ys → Alike S T s y → (c s ∈ f.map c ↔ d y ∈ g.map d) ∧ (f.map c).idxOf (c s) = (g.map d).idxOf (d y)
  | _, _, _, _, .nil, _, _, _ => by simp
  | _, _, s, y, .cons (s := a) (y := b) ha hb e h, hs, hy, es => by
    obtain ⟨i1, i2⟩ := Tw.idx h hs hy es
    have q : c a = c s ↔ d b = d y := by
      rw [Tw.cx a ha s hs, Tw.cy b hb y hy]
      exact ⟨fun z v => by rw [← e v, ← es v, z], fun z v => by rw [e v, es v, z]⟩
    simp only [List.map_cons, List.mem_cons, List.idxOf_cons]
    refine ⟨?_, ?_⟩
    · rw [i1]
      exact ⟨fun z => z.elim (fun z => .inl (q.mp z.symm).symm) .inr, fun z => z.elim (fun z => .inl (q.mpr z.symm).symm) .inr⟩
    · rw [i2]
      by_cases z : c a = c s
      · rw [beq_iff_eq.mpr z, beq_iff_eq.mpr (q.mp z)]
      · rw [beq_eq_false_iff_ne.mpr z, beq_eq_false_iff_ne.mpr fun w => z (q.mpr w)]
theorem Twin.step (Tw : Twin S T xs ys c d) {f g : List Nat} (h : AlikeL S T xs ys f g) {s y : Nat} (hs : s ∈ xs) (hy : y ∈ ys) (e : Alike S T s y) :
    AlikeL S T xs ys (numStep S c f s).1 (numStep T d g y).1 ∧ (numStep S c f s).2 = (numStep T d g y).2 := by
  obtain ⟨w0, e0⟩ := same_move Tw.ho Tw.hc Tw.ko Tw.kc hs hy e false
  obtain ⟨w1, e1⟩ := same_move Tw.ho Tw.hc Tw.ko Tw.kc hs hy e true
  have m0 := Tw.hc s hs false
  have m1 := Tw.hc s hs true
  have n0 := Tw.kc y hy false
  have n1 := Tw.kc y hy true
  have a1 : AlikeL S T xs ys (if c (S.g s false) ∈ f.map c then f else f ++ [S.g s false]) (if d (T.g y false) ∈ g.map d then g else g ++ [T.g y false]) := by
    have q := (Tw.idx h m0 n0 e0).1
    by_cases z : c (S.g s false) ∈ f.map c
    · rw [if_pos z, if_pos (q.mp z)]
      exact h
    · rw [if_neg z, if_neg fun w => z (q.mpr w)]
      exact h.app m0 n0 e0
  have i1 := (Tw.idx a1 m0 n0 e0).2
  have a2 := a1
  unfold numStep
  dsimp only
  generalize (if c (S.g s false) ∈ f.map c then f else f ++ [S.g s false]) = f1 at a1 i1 a2 ⊢
  generalize (if d (T.g y false) ∈ g.map d then g else g ++ [T.g y false]) = g1 at a1 i1 a2 ⊢
  have a3 : AlikeL S T xs ys (if c (S.g s true) ∈ f1.map c then f1 else f1 ++ [S.g s true]) (if d (T.g y true) ∈ g1.map d then g1 else g1 ++ [T.g y true]) := by
    have q := (Tw.idx a1 m1 n1 e1).1
    by_cases z : c (S.g s true) ∈ f1.map c
    · rw [if_pos z, if_pos (q.mp z)]
      exact a1
    · rw [if_neg z, if_neg fun w => z (q.mpr w)]
      exact a1.app m1 n1 e1
  refine ⟨a3, ?_⟩
  rw [i1, (Tw.idx a3 m1 n1 e1).2, w0, w1, show S.e s = T.e y from e []]
theorem Twin.go (Tw : Twin S T xs ys c d) : ∀ (n : Nat) {f g : List Nat} (ls : List RowN), AlikeL S T xs ys f g → AlikeL S T xs ys (numGo S c n f ls).1 (numGo T d n g ls).1 ∧ (numGo S c n f ls).2 = (numGo T d n g ls).2
  | 0, _, _, _, h => ⟨h, rfl⟩
  | n + 1, f, g, ls, h => by
    unfold numGo
    rcases h.get (i := ls.length) with ⟨e1, e2⟩ | ⟨s, y, e1, e2, hs, hy, e⟩
    · rw [e1, e2]
      exact ⟨h, rfl⟩
    · rw [e1, e2]
      simp only
      obtain ⟨a, b⟩ := Tw.step h hs hy e
      rw [b]
      exact Tw.go n _ a
end
end Sy
end DL
namespace DL
--plain
namespace Sy
/-- what holds while the rows are told -/
structure NumInv (S : Sy) (xs : List Nat) (c : Nat → Nat) (f : List Nat) (ls : List RowN) : Prop where
  mem : ∀ s ∈ f, s ∈ xs
  nod : (f.map c).Nodup
  le : ls.length ≤ f.length
  row : ∀ (k : Nat) (l : RowN), ls[k]? = some l → ∃ s, f[k]? = some s ∧ l.1.1 = S.w s false ∧ (f.map c)[l.1.2]? = some (c (S.g s false)) ∧ l.2.1.1 = S.w s true ∧ (f.map c)[l.2.1.2]? = some (c (S.g s true)) ∧ l.2.2 = S.e s
theorem get_app {α : Type} {f : List α} {i : Nat} {x : α} (h : f[i]? = some x) (r : List α) : (f ++ r)[i]? = some x := by
  rw [List.getElem?_append_left (List.getElem?_eq_some_iff.mp h).1]
  exact h
theorem addC (c : Nat → Nat) (f : List Nat) (y : Nat) {xs : List Nat} (hm : ∀ s ∈ f, s ∈ xs) (hy : y ∈ xs) (hn : (f.map c).Nodup) :
    ∃ r, (if c y ∈ f.map c then f else f ++ [y]) = f ++ r ∧ (∀ s ∈ f ++ r, s ∈ xs) ∧ ((f ++ r).map c).Nodup ∧ ((f ++ r).map c)[((f ++ r).map c).idxOf (c y)]? = some (c y) := by
  have at_ : ∀ l : List Nat, c y ∈ l → l[l.idxOf (c y)]? = some (c y) := fun l h => by
    rw [List.getElem?_eq_getElem (List.idxOf_lt_length_of_mem h), List.getElem_idxOf]
  by_cases h : c y ∈ f.map c
  · refine ⟨[], by rw [if_pos h, List.append_nil], by rwa [List.append_nil], by rwa [List.append_nil], ?_⟩
    rw [List.append_nil]
    exact at_ _ h
  · refine ⟨[y], if_neg h, fun s hs => ?_, ?_, at_ _ (by simp)⟩
    · rcases List.mem_append.mp hs with hs | hs
      · exact hm s hs
      · rw [List.mem_singleton.mp hs]
        exact hy
    · rw [List.map_append]
      exact List.nodup_append.mpr ⟨hn, by simp, fun a ha b hb => by simp at hb; subst hb; exact fun e => h (e ▸ ha)⟩
theorem NumInv.step {S : Sy} {xs : List Nat} {c : Nat → Nat} (hc : S.Closed xs) {f : List Nat} {ls : List RowN} (h : NumInv S xs c f ls) {s : Nat} (hs : f[ls.length]? = some s) :
    NumInv S xs c (numStep S c f s).1 (ls ++ [(numStep S c f s).2]) ∧ f <+: (numStep S c f s).1 := by
  have ms := h.mem s (List.mem_of_getElem? hs)
  obtain ⟨r1, e1, m1, n1, i1⟩ := addC c f (S.g s false) h.mem (hc s ms false) h.nod
  obtain ⟨r2, e2, m2, n2, i2⟩ := addC c (f ++ r1) (S.g s true) m1 (hc s ms true) n1
  have z : numStep S c f s = (f ++ r1 ++ r2, (S.w s false, ((f ++ r1).map c).idxOf (c (S.g s false))), (S.w s true, ((f ++ r1 ++ r2).map c).idxOf (c (S.g s true))), S.e s) := by
    unfold numStep
    simp only [e1, e2]
  rw [z]
  have hl := (List.getElem?_eq_some_iff.mp hs).1
  refine ⟨⟨m2, n2, by simp only [List.length_append, List.length_singleton]; omega, fun k l hk => ?_⟩, by rw [List.append_assoc]; exact List.prefix_append ..⟩
  by_cases b : k < ls.length
  · rw [List.getElem?_append_left b] at hk
    obtain ⟨y, a1, a2, a3, a4, a5, a6⟩ := h.row k l hk
    refine ⟨y, get_app (get_app a1 _) _, a2, ?_, a4, ?_, a6⟩
    · rw [List.map_append, List.map_append]
      exact get_app (get_app a3 _) _
    · rw [List.map_append, List.map_append]
      exact get_app (get_app a5 _) _
  · have : k = ls.length := by
      have := (List.getElem?_eq_some_iff.mp hk).1
      rw [List.length_append, List.length_singleton] at this
      omega
    subst this
    rw [List.getElem?_append_right (Nat.le_refl _), Nat.sub_self] at hk
    cases hk
    refine ⟨s, get_app (get_app hs _) _, rfl, ?_, rfl, i2, rfl⟩
    rw [List.map_append]
    exact get_app i1 _
theorem NumInv.short {S : Sy} {xs : List Nat} {c : Nat → Nat} {f : List Nat} {ls : List RowN} (h : NumInv S xs c f ls) : f.length ≤ xs.length := by
  have := nodup_len h.nod (m := xs.map c) fun x hx => by
    obtain ⟨s, hs, rfl⟩ := List.mem_map.mp hx
    exact List.mem_map_of_mem (h.mem s hs)
  simpa using this
theorem numGo_none {S : Sy} {c : Nat → Nat} {n : Nat} {f : List Nat} {ls : List RowN} (e : f[ls.length]? = none) : numGo S c (n + 1) f ls = (f, ls) := by
  show (match f[ls.length]? with | none => (f, ls) | some s => numGo S c n (numStep S c f s).1 (ls ++ [(numStep S c f s).2])) = _
  rw [e]
theorem numGo_some {S : Sy} {c : Nat → Nat} {n : Nat} {f : List Nat} {ls : List RowN} {s : Nat} (e : f[ls.length]? = some s) : numGo S c (n + 1) f ls = numGo S c n (numStep S c f s).1 (ls ++ [(numStep S c f s).2]) := by
  show (match f[ls.length]? with | none => (f, ls) | some s => numGo S c n (numStep S c f s).1 (ls ++ [(numStep S c f s).2])) = _
  rw [e]
theorem numGo_ok {S : Sy} {xs : List Nat} {c : Nat → Nat} (hc : S.Closed xs) : ∀ (n : Nat) (f : List Nat) (ls : List RowN), NumInv S xs c f ls → xs.length < n + ls.length →
    NumInv S xs c (numGo S c n f ls).1 (numGo S c n f ls).2 ∧ (numGo S c n f ls).1.length = (numGo S c n f ls).2.length ∧ f <+: (numGo S c n f ls).1 ∧ ∀ m, xs.length < m + ls.length → numGo S c m f ls = numGo S c n f ls
  | 0, f, ls, h, l => by
    have := h.short
    have := h.le
    omega
  | n + 1, f, ls, h, l => by
    have sh := h.short
    have le := h.le
    cases e : f[ls.length]? with
    | none =>
      have ln := List.getElem?_eq_none_iff.mp e
      rw [numGo_none e]
      refine ⟨h, by simp only; omega, List.prefix_refl _, fun m hm => ?_⟩
      cases m with
      | zero => rfl
      | succ m => rw [numGo_none e]
    | some s =>
      rw [numGo_some e]
      obtain ⟨st, pr⟩ := h.step hc e
      obtain ⟨a, b, d, k⟩ := numGo_ok hc n _ _ st (by rw [List.length_append, List.length_singleton]; omega)
      refine ⟨a, b, pr.trans d, fun m hm => ?_⟩
      cases m with
      | zero =>
        have := (List.getElem?_eq_some_iff.mp e).1
        omega
      | succ m =>
        rw [numGo_some e]
        exact k m (by rw [List.length_append, List.length_singleton]; omega)
end Sy
open Sy
/-- a machine's rows as functions -/
def syOf (rows : List RowN) : Sy where
  w := fun s t => match rows[s]? with
    | some r => if t then r.2.1.1 else r.1.1
    | none => []
  g := fun s t => match rows[s]? with
    | some r => if t then r.2.1.2 else r.1.2
    | none => s
  e := fun s => match rows[s]? with
    | some r => r.2.2
    | none => []
/-- rows whose moves lead to rows -/
def rowsIn (rows : List RowN) : Prop := 0 < rows.length ∧ ∀ r ∈ rows, r.1.2 < rows.length ∧ r.2.1.2 < rows.length
theorem rowsIn.lt {rows : List RowN} (h : rowsIn rows) (s : Nat) (t : Bool) (hs : s < rows.length) : (syOf rows).g s t < rows.length := by
  obtain ⟨a, b⟩ := h.2 rows[s] (List.getElem_mem hs)
  simp only [syOf, List.getElem?_eq_getElem hs]
  cases t
  · exact a
  · exact b
def runR (f : List Bool) (rows : List RowN) (v : List Bool) : List Bool := f ++ (syOf rows).run 0 v
def lfStates (rows : List RowN) : List Nat := (syOf rows).reach rows.length
def lfSure (rows : List RowN) : Nat → List Bool := (syOf rows).sureOf (lfStates rows)
def lfSy (rows : List RowN) : Sy := (syOf rows).onw (lfSure rows)
def lfCls (rows : List RowN) : Nat → Nat := (lfSy rows).clsAll (lfStates rows)
def lfNum (rows : List RowN) : List Nat × List RowN := numGo (lfSy rows) (lfCls rows) ((lfStates rows).length + 1) [0] []
/-- the least form -/
def lfM (f : List Bool) (rows : List RowN) : List Bool × List RowN := (f ++ lfSure rows 0, (lfNum rows).2)
section
variable {rows : List RowN} (h : rowsIn rows)
include h
theorem lf_reach : (lfStates rows).Nodup ∧ (∀ s ∈ lfStates rows, s < rows.length) ∧ (syOf rows).Closed (lfStates rows) ∧ (∀ s ∈ lfStates rows, ∃ u, (syOf rows).st 0 u = s) ∧ 0 ∈ lfStates rows := reach_ok h.1 h.lt
theorem lf_sure : ∀ s ∈ lfStates rows, IsSure ((syOf rows).run s) (lfSure rows s) := fun s hs => sure_is (lf_reach h).2.2.1 hs
theorem lf_onward : (lfSy rows).Onward (lfStates rows) := onw_onward (lf_reach h).2.2.1 (lf_sure h)
theorem lf_closed : (lfSy rows).Closed (lfStates rows) := (lf_reach h).2.2.1
theorem lf_cls {s t : Nat} (hs : s ∈ lfStates rows) (ht : t ∈ lfStates rows) : lfCls rows s = lfCls rows t ↔ ∀ v, (lfSy rows).run s v = (lfSy rows).run t v := cls_ok (lf_onward h) (lf_closed h) hs ht
theorem lf_inv0 : NumInv (lfSy rows) (lfStates rows) (lfCls rows) [0] [] := ⟨fun s hs => by simp at hs; subst hs; exact (lf_reach h).2.2.2.2, by simp, by simp, fun k l hk => by simp at hk⟩
theorem lf_num : NumInv (lfSy rows) (lfStates rows) (lfCls rows) (lfNum rows).1 (lfNum rows).2 ∧ (lfNum rows).1.length = (lfNum rows).2.length ∧ [0] <+: (lfNum rows).1 ∧ ∀ m, (lfStates rows).length < m → numGo (lfSy rows) (lfCls rows) m [0] [] = lfNum rows := by
  have := numGo_ok (lf_closed h) ((lfStates rows).length + 1) [0] [] (lf_inv0 h) (by simp)
  exact ⟨this.1, this.2.1, this.2.2.1, fun m hm => this.2.2.2 m (by simpa using hm)⟩
theorem lf_row {k s : Nat} (hs : (lfNum rows).1[k]? = some s) (t : Bool) : (syOf (lfNum rows).2).w k t = (lfSy rows).w s t ∧ (∃ s', (lfNum rows).1[(syOf (lfNum rows).2).g k t]? = some s' ∧ lfCls rows s' = lfCls rows ((lfSy rows).g s t)) ∧ (syOf (lfNum rows).2).e k = (lfSy rows).e s := by
  obtain ⟨iv, hl, _, _⟩ := lf_num h
  have lk := (List.getElem?_eq_some_iff.mp hs).1
  rw [hl] at lk
  have e := List.getElem?_eq_getElem lk
  obtain ⟨y, a1, a2, a3, a4, a5, a6⟩ := iv.row k _ e
  rw [hs] at a1
  cases a1
  have dec : ∀ i z, ((lfNum rows).1.map (lfCls rows))[i]? = some z → ∃ s', (lfNum rows).1[i]? = some s' ∧ lfCls rows s' = z := fun i z hz => by
    rw [List.getElem?_map] at hz
    cases q : (lfNum rows).1[i]? with
    | none => rw [q] at hz; cases hz
    | some s' => rw [q] at hz; cases hz; exact ⟨s', q, rfl⟩
  refine ⟨?_, ?_, ?_⟩
  · simp only [syOf, e]
    cases t
    · exact a2
    · exact a4
  · simp only [syOf, e]
    cases t
    · exact dec _ _ a3
    · exact dec _ _ a5
  · simp only [syOf, e]
    exact a6
theorem lf_run1 : ∀ (v : List Bool) (k s : Nat), (lfNum rows).1[k]? = some s → (syOf (lfNum rows).2).run k v = (lfSy rows).run s v
  | [], k, s, hs => (lf_row h hs false).2.2
  | t :: v, k, s, hs => by
    obtain ⟨a, ⟨s', b, c⟩, _⟩ := lf_row h hs t
    obtain ⟨iv, _⟩ := lf_num h
    have ms := iv.mem s (List.mem_of_getElem? hs)
    have ms' := iv.mem s' (List.mem_of_getElem? b)
    show (syOf (lfNum rows).2).w k t ++ _ = (lfSy rows).w s t ++ _
    rw [a, lf_run1 v _ s' b, (lf_cls h ms' (lf_closed h s ms t)).mp c]
theorem lf_zero : (lfNum rows).1[0]? = some 0 := by
  obtain ⟨_, _, ⟨r, hr⟩, _⟩ := lf_num h
  rw [← hr]
  rfl
theorem lf_run (f v : List Bool) : runR (lfM f rows).1 (lfM f rows).2 v = runR f rows v := by
  show f ++ lfSure rows 0 ++ (syOf (lfNum rows).2).run 0 v = f ++ (syOf rows).run 0 v
  rw [lf_run1 h v 0 0 (lf_zero h), List.append_assoc]
  congr 1
  exact onw_run (lf_reach h).2.2.1 (lf_sure h) v 0 (lf_reach h).2.2.2.2
theorem lf_rows (f : List Bool) : rowsIn (lfM f rows).2 ∧ (lfM f rows).2.length ≤ rows.length := by
  obtain ⟨iv, hl, _, _⟩ := lf_num h
  have z := (List.getElem?_eq_some_iff.mp (lf_zero h)).1
  refine ⟨⟨by show 0 < (lfNum rows).2.length; omega, fun r hr => ?_⟩, ?_⟩
  · obtain ⟨k, hk⟩ := List.getElem?_of_mem hr
    obtain ⟨y, a1, a2, a3, a4, a5, a6⟩ := iv.row k r hk
    have b3 := (List.getElem?_eq_some_iff.mp a3).1
    have b5 := (List.getElem?_eq_some_iff.mp a5).1
    rw [List.length_map] at b3 b5
    show r.1.2 < (lfNum rows).2.length ∧ r.2.1.2 < (lfNum rows).2.length
    omega
  · show (lfNum rows).2.length ≤ _
    have a := iv.short
    have b := nodup_len (lf_reach h).1 (m := List.range rows.length) fun x hx => List.mem_range.mpr ((lf_reach h).2.1 x hx)
    rw [List.length_range] at b
    omega
/-- the least form is onward, and its states write unlike -/
theorem lf_sure0 (k : Nat) (hk : k < (lfNum rows).2.length) : IsSure ((syOf (lfNum rows).2).run k) [] := by
  obtain ⟨iv, hl, _, _⟩ := lf_num h
  have hs := List.getElem?_eq_getElem (show k < (lfNum rows).1.length by omega)
  have e : (syOf (lfNum rows).2).run k = (lfSy rows).run (lfNum rows).1[k] := by
    funext v
    exact lf_run1 h v k _ hs
  rw [e]
  exact lf_onward h _ (iv.mem _ (List.mem_of_getElem? hs))
theorem lf_unlike {k j : Nat} (hk : k < (lfNum rows).2.length) (hj : j < (lfNum rows).2.length) (e : ∀ v, (syOf (lfNum rows).2).run k v = (syOf (lfNum rows).2).run j v) : k = j := by
  obtain ⟨iv, hl, _, _⟩ := lf_num h
  have hs := List.getElem?_eq_getElem (show k < (lfNum rows).1.length by omega)
  have ht := List.getElem?_eq_getElem (show j < (lfNum rows).1.length by omega)
  have q : lfCls rows (lfNum rows).1[k] = lfCls rows (lfNum rows).1[j] := (lf_cls h (iv.mem _ (List.mem_of_getElem? hs)) (iv.mem _ (List.mem_of_getElem? ht))).mpr fun v => by
    rw [← lf_run1 h v k _ hs, ← lf_run1 h v j _ ht, e]
  have a : ((lfNum rows).1.map (lfCls rows))[k]? = some (lfCls rows (lfNum rows).1[k]) := by rw [List.getElem?_map, hs]; rfl
  have b : ((lfNum rows).1.map (lfCls rows))[j]? = some (lfCls rows (lfNum rows).1[k]) := by rw [List.getElem?_map, ht, q]; rfl
  exact (List.getElem?_inj (by rw [List.length_map]; omega) iv.nod).mp (a.trans b.symm)
end
theorem IsSure.ahead {R : List Bool → List Bool} {p : List Bool} (h : IsSure R p) (f : List Bool) : IsSure (fun v => f ++ R v) (f ++ p) := by
  refine ⟨fun v => (List.prefix_append_right_inj _).mpr (h.1 v), fun q hq => ?_⟩
  rcases pre_cases (hq []) with k | ⟨q', rfl, _⟩
  · exact k.trans (List.prefix_append ..)
  · exact (List.prefix_append_right_inj _).mpr (h.2 q' fun v => (List.prefix_append_right_inj _).mp (hq v))
/-- machines that write the same have one least form -/
theorem lf_eq {f f' : List Bool} {rows rows' : List RowN} (h : rowsIn rows) (h' : rowsIn rows') (e : ∀ v, runR f rows v = runR f' rows' v) : lfM f rows = lfM f' rows' := by
  have z := (lf_reach h).2.2.2.2
  have z' := (lf_reach h').2.2.2.2
  have s1 := (lf_sure h 0 z).ahead f
  have s2 := (lf_sure h' 0 z').ahead f'
  have q : (fun v => f' ++ (syOf rows').run 0 v) = fun v => f ++ (syOf rows).run 0 v := by funext v; exact (e v).symm
  rw [q] at s2
  have e1 : f ++ lfSure rows 0 = f' ++ lfSure rows' 0 := s1.uniq s2
  have al : Alike (lfSy rows) (lfSy rows') 0 0 := fun v => by
    have a := onw_run (lf_reach h).2.2.1 (lf_sure h) v 0 z
    have b := onw_run (lf_reach h').2.2.1 (lf_sure h') v 0 z'
    have c := e v
    unfold runR at c
    rw [← a, ← b, ← List.append_assoc, ← List.append_assoc, e1] at c
    exact List.append_cancel_left c
  have tw : Twin (lfSy rows) (lfSy rows') (lfStates rows) (lfStates rows') (lfCls rows) (lfCls rows') := ⟨lf_onward h, lf_closed h, lf_onward h', lf_closed h', fun s hs t ht => lf_cls h hs ht, fun s hs t ht => lf_cls h' hs ht⟩
  obtain ⟨_, _, _, k1⟩ := lf_num h
  obtain ⟨_, _, _, k2⟩ := lf_num h'
  have g := (tw.go ((lfStates rows).length + (lfStates rows').length + 1) [] (.cons z z' al .nil)).2
  rw [k1 _ (by omega), k2 _ (by omega)] at g
  unfold lfM
  rw [e1, g]
theorem lf_lf {f : List Bool} {rows : List RowN} (h : rowsIn rows) : lfM (lfM f rows).1 (lfM f rows).2 = lfM f rows := lf_eq (lf_rows h f).1 h fun v => lf_run h f v
end DL
namespace DL
--plain
/-! ### pairs of words that go on alike -/
def restP (a b : List Bool) : List Bool × List Bool := (a.drop (lcp a b), b.drop (lcp a b))
def Par (u v u' v' : List Bool) : Prop := ∃ p p' c d, u = p ++ c ∧ v = p ++ d ∧ u' = p' ++ c ∧ v' = p' ++ d
theorem lcp_pre : ∀ (p a b : List Bool), lcp (p ++ a) (p ++ b) = p.length + lcp a b
  | [], a, b => by simp
  | x :: p, a, b => by
    show (if x = x then lcp (p ++ a) (p ++ b) + 1 else 0) = _
    rw [if_pos rfl, lcp_pre p a b, List.length_cons]
    omega
theorem restP_pre (p a b : List Bool) : restP (p ++ a) (p ++ b) = restP a b := by
  unfold restP
  rw [lcp_pre, List.drop_append, List.drop_append]
  simp
theorem lcp_take : ∀ (a b : List Bool), a.take (lcp a b) = b.take (lcp a b)
  | [], b => by cases b <;> simp [lcp]
  | x :: a, [] => by simp [lcp]
  | x :: a, y :: b => by
    unfold lcp
    split
    · rename_i e
      subst e
      simp [lcp_take a b]
    · simp
theorem par_rest {u v u' v' : List Bool} : Par u v u' v' ↔ restP u v = restP u' v' := by
  constructor
  · rintro ⟨p, p', c, d, rfl, rfl, rfl, rfl⟩
    rw [restP_pre, restP_pre]
  · intro h
    unfold restP at h
    obtain ⟨h1, h2⟩ := Prod.mk.inj h
    refine ⟨u.take (lcp u v), u'.take (lcp u' v'), u.drop (lcp u v), v.drop (lcp u v), (List.take_append_drop ..).symm, ?_, ?_, ?_⟩
    · rw [lcp_take, List.take_append_drop]
    · rw [h1, List.take_append_drop]
    · rw [h2, lcp_take, List.take_append_drop]
theorem Par.sym {u v u' v' : List Bool} (h : Par u v u' v') : Par v u v' u' := by
  obtain ⟨p, p', c, d, a1, a2, a3, a4⟩ := h
  exact ⟨p, p', d, c, a2, a1, a4, a3⟩
theorem Par.trans {e x y e' x' y' : List Bool} (h : Par e x e' x') (k : Par x y x' y') : Par e y e' y' := by
  obtain ⟨p, p', c, d, rfl, rfl, rfl, rfl⟩ := h
  obtain ⟨q, q', a, b, h1, rfl, h2, rfl⟩ := k
  rcases List.append_eq_append_iff.mp h1 with ⟨z, e1, e2⟩ | ⟨z, e1, e2⟩
  · -- q = p ++ z, d = z ++ a
    subst e2
    have h3 : q' = p' ++ z := by
      rw [← List.append_assoc] at h2
      exact (List.append_cancel_right h2).symm
    exact ⟨p, p', c, z ++ b, rfl, by rw [e1, List.append_assoc], rfl, by rw [h3, List.append_assoc]⟩
  · -- p = q ++ z, a = z ++ d
    subst e2
    have h3 : p' = q' ++ z := by
      rw [← List.append_assoc] at h2
      exact List.append_cancel_right h2
    exact ⟨q, q', z ++ c, b, by rw [e1, List.append_assoc], rfl, by rw [h3, List.append_assoc], rfl⟩
theorem Par.strip {w w' x y x' y' : List Bool} (h : Par (w ++ x) (w ++ y) (w' ++ x') (w' ++ y')) : Par x y x' y' := by
  rw [par_rest, restP_pre, restP_pre] at h
  exact par_rest.mpr h
theorem Par.add {w w' x y x' y' : List Bool} (h : Par x y x' y') : Par (w ++ x) (w ++ y) (w' ++ x') (w' ++ y') := by
  rw [par_rest, restP_pre, restP_pre]
  exact par_rest.mp h
theorem Par.self (u u' : List Bool) : Par u u u' u' := ⟨u, u', [], [], by simp, by simp, by simp, by simp⟩
namespace Sy
/-- states that go on alike behind so many turns -/
def Go (S : Sy) (k s t : Nat) : Prop := ∀ r : List Bool, r.length ≤ k → Par (S.e s) (S.run s r) (S.e t) (S.run t r)
theorem Go.le {S : Sy} {k j s t : Nat} (h : S.Go k s t) (l : j ≤ k) : S.Go j s t := fun r hr => h r (Nat.le_trans hr l)
theorem Go.next {S : Sy} {k s t : Nat} (h : S.Go (k + 1) s t) (a : Bool) : S.Go k (S.g s a) (S.g t a) := fun r hr =>
  ((h [a] (by simp)).sym.trans (h (a :: r) (by simpa using hr))).strip
theorem Go.up {S : Sy} {k s t : Nat} (h1 : S.Go 1 s t) (h : ∀ a, S.Go k (S.g s a) (S.g t a)) : S.Go (k + 1) s t := fun r hr => by
  cases r with
  | nil => exact Par.self ..
  | cons a r => exact (h1 [a] (by simp)).trans (h a r (by simpa using hr)).add
theorem Go.stable {S : Sy} {m j : Nat} (hc : ∀ s a, s < m → S.g s a < m) (h : ∀ s t, s < m → t < m → S.Go j s t → S.Go (j + 1) s t) : ∀ (i s t : Nat), s < m → t < m → S.Go j s t → S.Go (j + i) s t
  | 0, s, t, _, _, g => g
  | i + 1, s, t, hs, ht, g => by
    have g1 := h s t hs ht g
    have : S.Go ((j + i) + 1) s t := (g1.le (by omega)).up fun a => Go.stable hc h i _ _ (hc s a hs) (hc t a ht) (g1.next a)
    exact this
/-- in onward machines states that go on alike write the same -/
theorem Go.run {S : Sy} {s t : Nat} (hs : IsSure (S.run s) []) (ht : IsSure (S.run t) []) (h : ∀ k, S.Go k s t) (v : List Bool) : S.run s v = S.run t v := by
  -- some road parts from the end at once
  have part : ∀ s, IsSure (S.run s) [] → ∃ r, lcp (S.e s) (S.run s r) = 0 := fun s hs => by
    cases e : S.e s with
    | nil => exact ⟨[], by cases S.run s [] <;> rfl⟩
    | cons x a =>
      refine Classical.byContradiction fun n => ?_
      have all : ∀ r, [x] <+: S.run s r := fun r => by
        have : lcp (x :: a) (S.run s r) ≠ 0 := fun z => n ⟨r, z⟩
        cases q : S.run s r with
        | nil => rw [q] at this; exact absurd rfl this
        | cons y b =>
          rw [q] at this
          by_cases c : x = y
          · subst c; exact ⟨b, rfl⟩
          · exact absurd (if_neg c) this
      have := (hs.2 [x] all).length_le
      simp at this
  have key : ∀ r, restP (S.e s) (S.run s r) = restP (S.e t) (S.run t r) := fun r => par_rest.mp (h r.length r (Nat.le_refl _))
  have len : ∀ s t, IsSure (S.run s) [] → (∀ r, restP (S.e s) (S.run s r) = restP (S.e t) (S.run t r)) → (S.e s).length ≤ (S.e t).length := fun s t hs k => by
    obtain ⟨r, hr⟩ := part s hs
    have := congrArg (fun z => z.1.length) (k r)
    simp only [restP, hr, List.length_drop] at this
    omega
  have l : (S.e s).length = (S.e t).length := Nat.le_antisymm (len s t hs key) (len t s ht fun r => (key r).symm)
  have ee : S.e s = S.e t := by
    obtain ⟨r, hr⟩ := part s hs
    have k := congrArg Prod.fst (key r)
    simp only [restP, hr, List.drop_zero] at k
    have := congrArg List.length k
    rw [List.length_drop, l] at this
    have z : (S.e t).drop (lcp (S.e t) (S.run t r)) = S.e t := by
      have le := (lcp_le (S.e t) (S.run t r)).1
      have : lcp (S.e t) (S.run t r) = 0 := by omega
      rw [this]; rfl
    rw [k, z]
  have k := key v
  unfold restP at k
  obtain ⟨k1, k2⟩ := Prod.mk.inj k
  have c := congrArg List.length k1
  rw [List.length_drop, List.length_drop] at c
  have a1 := (lcp_le (S.e s) (S.run s v)).1
  have a2 := (lcp_le (S.e t) (S.run t v)).1
  have cc : lcp (S.e s) (S.run s v) = lcp (S.e t) (S.run t v) := by omega
  have w1 := lcp_take (S.e s) (S.run s v)
  have w2 := lcp_take (S.e t) (S.run t v)
  rw [← List.take_append_drop (lcp (S.e s) (S.run s v)) (S.run s v), ← List.take_append_drop (lcp (S.e t) (S.run t v)) (S.run t v), k2, ← w1, ← w2, cc, ee]
end Sy
end DL
namespace DL
--plain
open Sy
/-! ### least machines, and how far one has to look -/
structure Lst (rows : List RowN) : Prop where
  ins : rowsIn rows
  sure : ∀ k, k < rows.length → IsSure ((syOf rows).run k) []
  unl : ∀ k j, k < rows.length → j < rows.length → (∀ v, (syOf rows).run k v = (syOf rows).run j v) → k = j
theorem lst_of {rows : List RowN} (h : rowsIn rows) (f : List Bool) : Lst (lfM f rows).2 := ⟨(lf_rows h f).1, fun k hk => lf_sure0 h k hk, fun k j hk hj e => lf_unlike h hk hj e⟩
theorem Sy.Go.refl (S : Sy) (k s : Nat) : S.Go k s s := fun r _ => par_rest.mpr rfl
theorem Sy.Go.symm {S : Sy} {k s t : Nat} (h : S.Go k s t) : S.Go k t s := fun r hr => par_rest.mpr (par_rest.mp (h r hr)).symm
theorem Sy.Go.trans {S : Sy} {k s t u : Nat} (h : S.Go k s t) (g : S.Go k t u) : S.Go k s u := fun r hr => par_rest.mpr ((par_rest.mp (h r hr)).trans (par_rest.mp (g r hr)))
open Classical in
noncomputable def goK (S : Sy) (m k s : Nat) : List Nat := (List.range m).filter fun t => decide (S.Go k s t)
theorem goK_iff {S : Sy} {m k s t : Nat} (hs : s < m) (ht : t < m) : goK S m k s = goK S m k t ↔ S.Go k s t := by
  constructor
  · intro h
    have : t ∈ goK S m k t := by
      unfold goK
      rw [List.mem_filter]
      exact ⟨List.mem_range.mpr ht, by simpa using Sy.Go.refl S k t⟩
    rw [← h] at this
    unfold goK at this
    rw [List.mem_filter] at this
    simpa using this.2
  · intro h
    unfold goK
    refine List.filter_congr fun u _ => ?_
    by_cases c : S.Go k s u
    · have c' : S.Go k t u := h.symm.trans c
      simp [c, c']
    · have c' : ¬ S.Go k t u := fun z => c (h.trans z)
      simp [c, c']
/-- words behind fewer turns than there are states tell all states -/
theorem Lst.go {rows : List RowN} (L : Lst rows) {n : Nat} (hn : rows.length ≤ n) {s t : Nat} (hs : s < rows.length) (ht : t < rows.length) (h : (syOf rows).Go (n - 1) s t) : s = t := by
  let S := syOf rows
  let m := rows.length
  have m0 : 0 < m := L.ins.1
  have hc : ∀ s a, s < m → S.g s a < m := fun s a h => L.ins.lt s a h
  have one : ∀ j, (∀ s t, s < m → t < m → S.Go j s t → s = t) ∨ j + 1 ≤ clsN (goK S m j) (List.range m) := by
    intro j
    induction j with
    | zero => exact .inr (clsN_pos (s := 0) (List.mem_range.mpr m0))
    | succ j ih =>
      rcases ih with ih | ih
      · exact .inl fun s t hs ht g => ih s t hs ht (g.le (by omega))
      · have fine : ∀ s ∈ List.range m, ∀ t ∈ List.range m, goK S m (j + 1) s = goK S m (j + 1) t → goK S m j s = goK S m j t := fun s hs t ht e =>
          (goK_iff (List.mem_range.mp hs) (List.mem_range.mp ht)).mpr (((goK_iff (List.mem_range.mp hs) (List.mem_range.mp ht)).mp e).le (by omega))
        have le := fine_le fine
        by_cases c : clsN (goK S m j) (List.range m) = clsN (goK S m (j + 1)) (List.range m)
        · left
          have same := same_classes fine c
          have st : ∀ s t, s < m → t < m → S.Go j s t → S.Go (j + 1) s t := fun s t hs ht g =>
            (goK_iff hs ht).mp (same s (List.mem_range.mpr hs) t (List.mem_range.mpr ht) ((goK_iff hs ht).mpr g))
          intro s t hs ht g
          refine L.unl s t hs ht fun v => Sy.Go.run (L.sure s hs) (L.sure t ht) (fun k => ?_) v
          rcases Nat.le_total k j with l | l
          · exact g.le (by omega)
          · have := Sy.Go.stable hc st (k - j) s t hs ht (g.le (by omega))
            rwa [Nat.add_sub_cancel' l] at this
        · right
          omega
  rcases one (n - 1) with h1 | h1
  · exact h1 s t hs ht h
  · have idn : clsN (fun s : Nat => s) (List.range m) = m := by
      refine Nat.le_antisymm (by simpa using clsN_le (fun s : Nat => s) (List.range m)) ?_
      have := nodup_len (l := List.range m) (m := ded ((List.range m).map fun s => s)) List.nodup_range fun x hx => ded_mem.mpr (by simpa using hx)
      rw [List.length_range] at this
      exact this
    have le := clsN_le (goK S m (n - 1)) (List.range m)
    rw [List.length_range] at le
    have c : clsN (goK S m (n - 1)) (List.range m) = clsN (fun s : Nat => s) (List.range m) := by
      rw [idn]
      omega
    exact same_classes (fun a _ b _ (e : a = b) => by subst e; rfl) c s (List.mem_range.mpr hs) t (List.mem_range.mpr ht) ((goK_iff hs ht).mpr h)
end DL
namespace DL
--plain
open Sy
/-! ### the states found by roads -/
section
variable {α : Type} [DecidableEq α]
def bAdd (mk : List Bool → α) (f : List (List Bool)) (r : List Bool) : List (List Bool) := if mk r ∈ f.map mk then f else f ++ [r]
def bStep (mk : List Bool → α) (f : List (List Bool)) (r : List Bool) : List (List Bool) × (Nat × Nat) :=
  let f1 := bAdd mk f (r ++ [false])
  let f2 := bAdd mk f1 (r ++ [true])
  (f2, (f1.map mk).idxOf (mk (r ++ [false])), (f2.map mk).idxOf (mk (r ++ [true])))
def bGo (mk : List Bool → α) (most : Nat) : Nat → List (List Bool) → List (Nat × Nat) → Option (List (List Bool) × List (Nat × Nat))
  | 0, _, _ => none
  | n + 1, f, mv => match f[mv.length]? with
    | none => some (f, mv)
    | some r => if most < (bStep mk f r).1.length then none else bGo mk most n (bStep mk f r).1 (mv ++ [(bStep mk f r).2])
end
theorem idx_twin {α β γ : Type} [DecidableEq β] [DecidableEq γ] (p : α → β) (q : α → γ) (x : α) : ∀ l : List α, (∀ y ∈ l, p y = p x ↔ q y = q x) → (p x ∈ l.map p ↔ q x ∈ l.map q) ∧ (l.map p).idxOf (p x) = (l.map q).idxOf (q x)
  | [], _ => by simp
  | y :: l, h => by
    obtain ⟨a, b⟩ := idx_twin p q x l fun z hz => h z (List.mem_cons_of_mem _ hz)
    have hy := h y (List.mem_cons_self ..)
    rw [List.map_cons, List.map_cons]
    by_cases e : p y = p x
    · have e' := hy.mp e
      simp [e, e']
    · have e' : ¬ q y = q x := fun z => e (hy.mpr z)
      have n1 : ¬ p x = p y := fun z => e z.symm
      have n2 : ¬ q x = q y := fun z => e' z.symm
      refine ⟨by simp only [List.mem_cons, n1, n2, false_or]; exact a, ?_⟩
      rw [List.idxOf_cons, List.idxOf_cons, show (p y == p x) = false by simpa using e, show (q y == q x) = false by simpa using e', b]
theorem lst_found {rows : List RowN} (L : Lst rows) (hb : (lfNum rows).2 = rows) {k : Nat} (hk : k < rows.length) : (lfNum rows).1[k]? = some k := by
  obtain ⟨iv, hl, _, _⟩ := lf_num L.ins
  rw [hb] at hl
  have hs : (lfNum rows).1[k]? = some (lfNum rows).1[k] := List.getElem?_eq_getElem (by omega)
  generalize (lfNum rows).1[k] = s at hs
  have ms := iv.mem s (List.mem_of_getElem? hs)
  have sl := (lf_reach L.ins).2.1 s ms
  have s0 : lfSure rows s = [] := (lf_sure L.ins s ms).uniq (L.sure s sl)
  have e := L.unl k s hk sl fun v => by
    have a := lf_run1 L.ins v k s hs
    rw [hb] at a
    have b := onw_run (lf_reach L.ins).2.2.1 (lf_sure L.ins) v s ms
    rw [s0] at b
    rw [a]
    exact b
  rw [hs, e]
/-- what marks tell of a machine -/
structure Marks {α : Type} (rows : List RowN) (mk : List Bool → α) (n : Nat) : Prop where
  L : Lst rows
  hb : (lfNum rows).2 = rows
  hn : rows.length ≤ n
  ok : ∀ v v', v.length ≤ n → v'.length ≤ n → (mk v = mk v' ↔ (syOf rows).st 0 v = (syOf rows).st 0 v')
section
variable {α : Type} [DecidableEq α] {rows : List RowN} {mk : List Bool → α} {n : Nat}
theorem lst_states (L : Lst rows) {s : Nat} (hs : s ∈ lfStates rows) : lfSure rows s = [] := (lf_sure L.ins s hs).uniq (L.sure s ((lf_reach L.ins).2.1 s hs))
theorem lst_cls (L : Lst rows) {s t : Nat} (hs : s ∈ lfStates rows) (ht : t ∈ lfStates rows) : lfCls rows s = lfCls rows t ↔ s = t := by
  rw [lf_cls L.ins hs ht]
  refine ⟨fun h => L.unl s t ((lf_reach L.ins).2.1 s hs) ((lf_reach L.ins).2.1 t ht) fun v => ?_, fun h => by rw [h]; exact fun _ => rfl⟩
  have a := onw_run (lf_reach L.ins).2.2.1 (lf_sure L.ins) v s hs
  have b := onw_run (lf_reach L.ins).2.2.1 (lf_sure L.ins) v t ht
  rw [lst_states L hs] at a
  rw [lst_states L ht] at b
  exact a.symm.trans ((h v).trans b)
theorem Marks.add (M : Marks rows mk n) {f : List (List Bool)} (hf : ∀ v ∈ f, v.length ≤ n) (hm : ∀ s ∈ f.map ((syOf rows).st 0), s ∈ lfStates rows) {v : List Bool} (hv : v.length ≤ n) (mv : (syOf rows).st 0 v ∈ lfStates rows) :
    (bAdd mk f v).map ((syOf rows).st 0) = (if lfCls rows ((syOf rows).st 0 v) ∈ (f.map ((syOf rows).st 0)).map (lfCls rows) then f.map ((syOf rows).st 0) else f.map ((syOf rows).st 0) ++ [(syOf rows).st 0 v]) ∧
    ((bAdd mk f v).map mk).idxOf (mk v) = (((bAdd mk f v).map ((syOf rows).st 0)).map (lfCls rows)).idxOf (lfCls rows ((syOf rows).st 0 v)) := by
  have tw : ∀ g : List (List Bool), (∀ y ∈ g, y.length ≤ n ∧ (syOf rows).st 0 y ∈ lfStates rows) → (mk v ∈ g.map mk ↔ lfCls rows ((syOf rows).st 0 v) ∈ (g.map ((syOf rows).st 0)).map (lfCls rows)) ∧ (g.map mk).idxOf (mk v) = ((g.map ((syOf rows).st 0)).map (lfCls rows)).idxOf (lfCls rows ((syOf rows).st 0 v)) := fun g hg => by
    rw [List.map_map]
    exact idx_twin mk (lfCls rows ∘ (syOf rows).st 0) v g fun y hy => by
      rw [M.ok y v (hg y hy).1 hv]
      exact (lst_cls M.L (hg y hy).2 mv).symm
  have hg : ∀ y ∈ f, y.length ≤ n ∧ (syOf rows).st 0 y ∈ lfStates rows := fun y hy => ⟨hf y hy, hm _ (List.mem_map_of_mem hy)⟩
  refine ⟨?_, (tw _ fun y hy => ?_).2⟩
  · unfold bAdd
    by_cases c : mk v ∈ f.map mk
    · rw [if_pos c, if_pos ((tw f hg).1.mp c)]
    · rw [if_neg c, if_neg fun z => c ((tw f hg).1.mpr z), List.map_append]
      rfl
  · unfold bAdd at hy
    split at hy
    · exact hg y hy
    · rcases List.mem_append.mp hy with h | h
      · exact hg y h
      · rw [List.mem_singleton.mp h]
        exact ⟨hv, mv⟩
/-- roads are not longer than the number of those ahead of them -/
def Short (f : List (List Bool)) : Prop := ∀ (i : Nat) (v : List Bool), f[i]? = some v → v.length ≤ i
theorem Short.add {f : List (List Bool)} (h : Short f) {v : List Bool} (hv : v.length ≤ f.length) : Short (bAdd mk f v) := by
  unfold bAdd
  split
  · exact h
  · intro i w hi
    by_cases c : i < f.length
    · rw [List.getElem?_append_left c] at hi
      exact h i w hi
    · rw [List.getElem?_append_right (by omega)] at hi
      have l := (List.getElem?_eq_some_iff.mp hi).1
      simp at l
      have : i - f.length = 0 := by omega
      rw [this] at hi
      cases hi
      omega
theorem bAdd_len (mk : List Bool → α) (f : List (List Bool)) (v : List Bool) : f.length ≤ (bAdd mk f v).length := by
  unfold bAdd
  split
  · exact Nat.le_refl _
  · simp
theorem Short.step {f : List (List Bool)} (h : Short f) {i : Nat} {r : List Bool} (hr : f[i]? = some r) : Short (bStep mk f r).1 := by
  have l := (List.getElem?_eq_some_iff.mp hr).1
  have := h i r hr
  have b := bAdd_len mk f (r ++ [false])
  exact (h.add (by simp; omega)).add (by simp; omega)
theorem Marks.go (M : Marks rows mk n) : ∀ (k : Nat) (f : List (List Bool)) (F : List Nat) (ls : List RowN), Short f → f.map ((syOf rows).st 0) = F → Sy.NumInv (lfSy rows) (lfStates rows) (lfCls rows) F ls → (lfStates rows).length < k + ls.length → 
    ∃ R, bGo mk n k f (ls.map fun l => (l.1.2, l.2.1.2)) = some (R, (Sy.numGo (lfSy rows) (lfCls rows) k F ls).2.map fun l => (l.1.2, l.2.1.2)) ∧ R.map ((syOf rows).st 0) = (Sy.numGo (lfSy rows) (lfCls rows) k F ls).1 ∧ Short R
  | 0, f, F, ls, sh, e, iv, hk => by
    have := iv.short
    have := iv.le
    omega
  | k + 1, f, F, ls, sh, e, iv, hk => by
    have ll : (ls.map fun l => (l.1.2, l.2.1.2)).length = ls.length := List.length_map ..
    have xl : (lfStates rows).length ≤ n := by
      have b := nodup_len (lf_reach M.L.ins).1 (m := List.range rows.length) fun x hx => List.mem_range.mpr ((lf_reach M.L.ins).2.1 x hx)
      rw [List.length_range] at b
      have := M.hn
      omega
    cases q : f[ls.length]? with
    | none =>
      have q' : F[ls.length]? = none := by rw [← e, List.getElem?_map, q]; rfl
      refine ⟨f, ?_, ?_, sh⟩
      · show (match f[(ls.map fun l : RowN => (l.1.2, l.2.1.2)).length]? with | none => _ | some r => _) = _
        rw [ll, q, Sy.numGo_none q']
      · rw [Sy.numGo_none q', e]
    | some r =>
      have q' : F[ls.length]? = some ((syOf rows).st 0 r) := by rw [← e, List.getElem?_map, q]; rfl
      have ms := iv.mem _ (List.mem_of_getElem? q')
      have lr := sh _ _ q
      have lf := (List.getElem?_eq_some_iff.mp q).1
      have fl : f.length = F.length := by rw [← e, List.length_map]
      have shF := iv.short
      obtain ⟨iv2, _⟩ := iv.step (lf_closed M.L.ins) q'
      have sh2 := sh.step (mk := mk) q
      have hf : ∀ v ∈ f, v.length ≤ n := fun v hv => by
        obtain ⟨i, hi⟩ := List.getElem?_of_mem hv
        have := sh i v hi
        have := (List.getElem?_eq_some_iff.mp hi).1
        omega
      have g0 : (syOf rows).st 0 (r ++ [false]) = (lfSy rows).g ((syOf rows).st 0 r) false := by rw [Sy.st_app]; rfl
      have g1 : (syOf rows).st 0 (r ++ [true]) = (lfSy rows).g ((syOf rows).st 0 r) true := by rw [Sy.st_app]; rfl
      have c0 := lf_closed M.L.ins _ ms false
      have c1 := lf_closed M.L.ins _ ms true
      have a0 := M.add hf (fun s hs => iv.mem s (by rw [← e]; exact hs)) (v := r ++ [false]) (by simp; omega) (by rw [g0]; exact c0)
      have hf1 : ∀ v ∈ bAdd mk f (r ++ [false]), v.length ≤ n := fun v hv => by
        unfold bAdd at hv
        split at hv
        · exact hf v hv
        · rcases List.mem_append.mp hv with h | h
          · exact hf v h
          · rw [List.mem_singleton.mp h]; simp; omega
      have hm1 : ∀ s ∈ (bAdd mk f (r ++ [false])).map ((syOf rows).st 0), s ∈ lfStates rows := fun s hs => by
        rw [a0.1] at hs
        split at hs
        · exact iv.mem s (by rw [← e]; exact hs)
        · rcases List.mem_append.mp hs with h | h
          · exact iv.mem s (by rw [← e]; exact h)
          · rw [List.mem_singleton.mp h, g0]; exact c0
      have a1 := M.add hf1 hm1 (v := r ++ [true]) (by simp; omega) (by rw [g1]; exact c1)
      have st1 : (bStep mk f r).1.map ((syOf rows).st 0) = (Sy.numStep (lfSy rows) (lfCls rows) F ((syOf rows).st 0 r)).1 := by
        show (bAdd mk (bAdd mk f (r ++ [false])) (r ++ [true])).map _ = _
        rw [a1.1, a0.1, e, g0, g1]
        rfl
      have st2 : (bStep mk f r).2 = ((Sy.numStep (lfSy rows) (lfCls rows) F ((syOf rows).st 0 r)).2.1.2, (Sy.numStep (lfSy rows) (lfCls rows) F ((syOf rows).st 0 r)).2.2.1.2) := by
        show (((bAdd mk f (r ++ [false])).map mk).idxOf (mk (r ++ [false])), ((bAdd mk (bAdd mk f (r ++ [false])) (r ++ [true])).map mk).idxOf (mk (r ++ [true]))) = _
        rw [a0.2, a1.2, a1.1, a0.1, e, g0, g1]
        rfl
      have few : ¬ n < (bStep mk f r).1.length := by
        have := iv2.short
        have l2 := congrArg List.length st1
        rw [List.length_map] at l2
        omega
      obtain ⟨R, r1, r2, r3⟩ := M.go k (bStep mk f r).1 _ (ls ++ [(Sy.numStep (lfSy rows) (lfCls rows) F ((syOf rows).st 0 r)).2]) sh2 st1 iv2 (by rw [List.length_append, List.length_singleton]; omega)
      refine ⟨R, ?_, ?_, r3⟩
      · show (match f[(ls.map fun l : RowN => (l.1.2, l.2.1.2)).length]? with | none => _ | some r => if n < (bStep mk f r).1.length then none else bGo mk n k (bStep mk f r).1 ((ls.map fun l : RowN => (l.1.2, l.2.1.2)) ++ [(bStep mk f r).2])) = _
        rw [ll, q]
        simp only
        rw [if_neg few, Sy.numGo_some q', ← r1, List.map_append, st2]
        rfl
      · rw [Sy.numGo_some q']
        exact r2
end
end DL
namespace DL
--plain
open Sy
/-! ### how much is written at the ends -/
def cutE (w : List Bool) (k : Nat) : List Bool := w.take (w.length - k)
theorem cutE_mono (w : List Bool) {k j : Nat} (h : k ≤ j) : cutE w j <+: cutE w k := by
  unfold cutE
  exact List.take_prefix_take_left (by omega)
theorem lcpW_mono {a b a' b' : List Bool} (h : a <+: a') (k : b <+: b') : lcpW a b <+: lcpW a' b' := lcpW_great ((lcpW_left a b).trans h) ((lcpW_right a b).trans k)
def sureT (T : List Bool → List Bool) (v : List Bool) (p : Nat × Nat) (ends : Nat → Nat) : Option (List Bool) :=
  if (T (v ++ [false])).length < ends p.1 then none else
  if (T (v ++ [true])).length < ends p.2 then none else
  some (lcpW (lcpW (T v) (cutE (T (v ++ [false])) (ends p.1))) (cutE (T (v ++ [true])) (ends p.2)))
theorem sureT_mono {T : List Bool → List Bool} {v : List Bool} {p : Nat × Nat} {ends ends' : Nat → Nat} (h : ∀ k, ends k ≤ ends' k) {s' : List Bool} (e : sureT T v p ends' = some s') : ∃ s, sureT T v p ends = some s ∧ s' <+: s := by
  unfold sureT at e ⊢
  have h1 := h p.1
  have h2 := h p.2
  split at e
  · cases e
  · split at e
    · cases e
    · rename_i a b
      rw [if_neg (by omega), if_neg (by omega)]
      refine ⟨_, rfl, ?_⟩
      cases e
      exact lcpW_mono (lcpW_mono (List.prefix_refl _) (cutE_mono _ h1)) (cutE_mono _ h2)
theorem sureT_pre {T : List Bool → List Bool} {v : List Bool} {p : Nat × Nat} {ends : Nat → Nat} {s : List Bool} (e : sureT T v p ends = some s) : s <+: T v := by
  unfold sureT at e
  split at e
  · cases e
  · split at e
    · cases e
    · cases e
      exact (lcpW_left _ _).trans (lcpW_left _ _)
def updE (f : Nat → Nat) (k x : Nat) : Nat → Nat := fun y => if y = k then x else f y
def newE (T : List Bool → List Bool) (v s : List Bool) : Nat := (T v).length - s.length
def passE (T : List Bool → List Bool) (mv : Nat → Nat × Nat) : Nat → List (List Bool) → (Nat → Nat) × Bool → Option ((Nat → Nat) × Bool)
  | _, [], z => some z
  | k, v :: r, z => match sureT T v (mv k) z.1 with
    | none => none
    | some s => passE T mv (k + 1) r (updE z.1 k (newE T v s), z.2 || decide (z.1 k < newE T v s))
def endsGo (T : List Bool → List Bool) (mv : Nat → Nat × Nat) (R : List (List Bool)) : Nat → (Nat → Nat) → Option (Nat → Nat)
  | 0, _ => none
  | n + 1, E => match passE T mv 0 R (E, false) with
    | none => none
    | some z => if z.2 = true then endsGo T mv R n z.1 else some z.1
def sumE (m : Nat) (E : Nat → Nat) : Nat := ((List.range m).map E).sum
theorem sumE_le {E F : Nat → Nat} : ∀ m, (∀ k, E k ≤ F k) → sumE m E ≤ sumE m F
  | 0, _ => Nat.le_refl _
  | m + 1, h => by
    have := sumE_le m h
    have := h m
    unfold sumE at *
    rw [List.range_succ, List.map_append, List.sum_append, List.map_append, List.sum_append]
    simp
    omega
theorem sum_lt {E F : Nat → Nat} {j : Nat} (l : E j < F j) : ∀ m, (∀ k, E k ≤ F k) → j < m → sumE m E < sumE m F
  | 0, _, hj => by omega
  | m + 1, h, hj => by
    have a := sumE_le m h
    have b := h m
    by_cases c : j = m
    · subst c
      unfold sumE at *
      rw [List.range_succ, List.map_append, List.sum_append, List.map_append, List.sum_append]
      simp
      omega
    · have := sum_lt l m h (by omega)
      unfold sumE at *
      rw [List.range_succ, List.map_append, List.sum_append, List.map_append, List.sum_append]
      simp
      omega
/-- the numbers of turns are no greater than those that come next -/
def JE (T : List Bool → List Bool) (mv : Nat → Nat × Nat) (R : List (List Bool)) (E : Nat → Nat) : Prop := ∀ k v s, R[k]? = some v → sureT T v (mv k) E = some s → E k ≤ newE T v s
theorem JE.step {T : List Bool → List Bool} {mv : Nat → Nat × Nat} {R : List (List Bool)} {E : Nat → Nat} (h : JE T mv R E) {k : Nat} {v s : List Bool} (hk : R[k]? = some v) (hs : sureT T v (mv k) E = some s) :
    JE T mv R (updE E k (newE T v s)) ∧ ∀ j, E j ≤ updE E k (newE T v s) j := by
  have le : ∀ j, E j ≤ updE E k (newE T v s) j := fun j => by
    unfold updE
    split
    · rename_i c
      subst c
      exact h j v s hk hs
    · exact Nat.le_refl _
  refine ⟨fun j w s' hj hs' => ?_, le⟩
  obtain ⟨s0, e0, p0⟩ := sureT_mono le hs'
  have pl := p0.length_le
  unfold updE
  split
  · rename_i c
    subst c
    rw [hk] at hj
    cases hj
    rw [hs] at e0
    cases e0
    unfold newE
    omega
  · have := h j w s0 hj e0
    unfold newE at this ⊢
    omega
/-- what one pass does -/
theorem passE_ok {T : List Bool → List Bool} {mv : Nat → Nat × Nat} {R : List (List Bool)} : ∀ (r : List (List Bool)) (k : Nat) (z z' : (Nat → Nat) × Bool), (∀ i v, r[i]? = some v → R[k + i]? = some v) → JE T mv R z.1 → passE T mv k r z = some z' →
    JE T mv R z'.1 ∧ (∀ j, z.1 j ≤ z'.1 j) ∧ (z'.2 = true → z.2 = true ∨ sumE R.length z.1 < sumE R.length z'.1) ∧ (z'.2 = false → z.2 = false ∧ z'.1 = z.1 ∧ ∀ i v, r[i]? = some v → ∃ s, sureT T v (mv (k + i)) z.1 = some s ∧ z.1 (k + i) = newE T v s)
  | [], k, z, z', _, J, e => by
    unfold passE at e
    cases e
    exact ⟨J, fun _ => Nat.le_refl _, .inl, fun h => ⟨h, rfl, fun i v hi => by simp at hi⟩⟩
  | v :: r, k, z, z', hr, J, e => by
    unfold passE at e
    have hv := hr 0 v rfl
    rw [Nat.add_zero] at hv
    have kl := (List.getElem?_eq_some_iff.mp hv).1
    cases q : sureT T v (mv k) z.1 with
    | none => rw [q] at e; cases e
    | some s =>
      rw [q] at e
      obtain ⟨J2, le2⟩ := J.step hv q
      obtain ⟨a, b, c, d⟩ := passE_ok r (k + 1) _ z' (fun i w hi => by
        have := hr (i + 1) w (by simpa using hi)
        rwa [show k + (i + 1) = k + 1 + i by omega] at this) J2 e
      refine ⟨a, fun j => Nat.le_trans (le2 j) (b j), fun h => ?_, fun h => ?_⟩
      · rcases c h with c | c
        · simp only [Bool.or_eq_true, decide_eq_true_eq] at c
          rcases c with c | c
          · exact .inl c
          · refine .inr (Nat.lt_of_lt_of_le (sum_lt (j := k) ?_ _ le2 kl) (sumE_le _ b))
            unfold updE
            rw [if_pos rfl]
            exact c
        · exact .inr (Nat.lt_of_le_of_lt (sumE_le _ le2) c)
      · obtain ⟨d1, d2, d3⟩ := d h
        simp only [Bool.or_eq_false_iff, decide_eq_false_iff_not, Nat.not_lt] at d1
        have eq : z.1 k = newE T v s := Nat.le_antisymm (J k v s hv q) d1.2
        have same : updE z.1 k (newE T v s) = z.1 := by
          funext y
          unfold updE
          split
          · rename_i c
            subst c
            exact eq.symm
          · rfl
        simp only [same] at d2 d3
        refine ⟨d1.1, d2, fun i w hi => ?_⟩
        cases i with
        | zero =>
          cases hi
          exact ⟨s, q, eq⟩
        | succ i =>
          have := d3 i w (by simpa using hi)
          rwa [show k + 1 + i = k + (i + 1) by omega] at this
theorem JE0 (T : List Bool → List Bool) (mv : Nat → Nat × Nat) (R : List (List Bool)) : JE T mv R fun _ => 0 := fun _ _ _ _ _ => Nat.zero_le _
def boundE (T : List Bool → List Bool) (R : List (List Bool)) : Nat := (R.map fun v => (T v).length).sum
def endsT (T : List Bool → List Bool) (mv : Nat → Nat × Nat) (R : List (List Bool)) : Option (Nat → Nat) := endsGo T mv R (boundE T R + 1) fun _ => 0
end DL
namespace DL
--plain
open Sy
/-! ### a table of a least machine tells the machine -/
theorem cutE_app (a b : List Bool) {j : Nat} (h : j ≤ b.length) : cutE (a ++ b) j = a ++ cutE b j := by
  unfold cutE
  rw [List.length_append, List.take_append, List.take_of_length_le (by omega)]
  congr 2
  omega
theorem cutE_app2 (a b c : List Bool) {j : Nat} (h : j ≤ c.length) : cutE (a ++ (b ++ c)) j = a ++ (b ++ cutE c j) := by
  rw [cutE_app _ _ (by rw [List.length_append]; omega), cutE_app _ _ h]
theorem lcpW_app (p a b : List Bool) : lcpW (p ++ a) (p ++ b) = p ++ lcpW a b := by
  unfold lcpW
  rw [lcp_pre, List.take_append, List.take_of_length_le (by omega)]
  congr 2
  omega
def markT (T : List Bool → List Bool) (later : List (List Bool)) (v : List Bool) : List (List Bool × List Bool) := later.map fun r => restP (T v) (T (v ++ r))
/-- a table of a least machine -/
structure Tab (T : List Bool → List Bool) (f : List Bool) (rows : List RowN) (n : Nat) : Prop where
  L : Lst rows
  hb : (lfNum rows).2 = rows
  hn : rows.length ≤ n
  tab : ∀ v, v.length ≤ 2 * n - 1 → T v = f ++ (syOf rows).run 0 v
theorem st_lt {rows : List RowN} (h : rowsIn rows) : ∀ (v : List Bool) (s : Nat), s < rows.length → (syOf rows).st s v < rows.length
  | [], _, hs => hs
  | t :: v, s, hs => st_lt h v _ (h.lt s t hs)
section
variable {T : List Bool → List Bool} {f : List Bool} {rows : List RowN} {n : Nat}
theorem Tab.behind (M : Tab T f rows n) {v r : List Bool} (l : (v ++ r).length ≤ 2 * n - 1) : T (v ++ r) = (f ++ (syOf rows).out 0 v) ++ (syOf rows).run ((syOf rows).st 0 v) r := by
  rw [M.tab _ l, Sy.run_out, List.append_assoc]
theorem Tab.here (M : Tab T f rows n) {v : List Bool} (l : v.length ≤ 2 * n - 1) : T v = (f ++ (syOf rows).out 0 v) ++ (syOf rows).e ((syOf rows).st 0 v) := by
  have := M.behind (v := v) (r := []) (by simpa using l)
  rw [List.append_nil] at this
  exact this
theorem Tab.next (M : Tab T f rows n) {v : List Bool} {a : Bool} (l : v.length + 1 ≤ 2 * n - 1) : T (v ++ [a]) = (f ++ (syOf rows).out 0 v) ++ ((syOf rows).w ((syOf rows).st 0 v) a ++ (syOf rows).e ((syOf rows).g ((syOf rows).st 0 v) a)) := M.behind (v := v) (r := [a]) (by simpa using l)
theorem Tab.marks (M : Tab T f rows n) {later : List (List Bool)} (hl : ∀ r, r ∈ later ↔ r.length ≤ n - 1) : Marks rows (markT T later) n := by
  refine ⟨M.L, M.hb, M.hn, fun v v' hv hv' => ?_⟩
  have n1 : 1 ≤ n := Nat.le_trans M.L.ins.1 M.hn
  have at_ : ∀ v : List Bool, v.length ≤ n → ∀ r ∈ later, restP (T v) (T (v ++ r)) = restP ((syOf rows).e ((syOf rows).st 0 v)) ((syOf rows).run ((syOf rows).st 0 v) r) := fun v hv r hr => by
    have := (hl r).mp hr
    rw [M.here (by omega), M.behind (by rw [List.length_append]; omega), restP_pre]
  constructor
  · intro h
    refine M.L.go M.hn (st_lt M.L.ins v 0 M.L.ins.1) (st_lt M.L.ins v' 0 M.L.ins.1) fun r hr => par_rest.mpr ?_
    have := List.map_inj_left.mp h r ((hl r).mpr hr)
    rwa [at_ v hv r ((hl r).mpr hr), at_ v' hv' r ((hl r).mpr hr)] at this
  · intro h
    unfold markT
    refine List.map_inj_left.mpr fun r hr => ?_
    rw [at_ v hv r hr, at_ v' hv' r hr, h]
theorem Tab.states (M : Tab T f rows n) : (lfStates rows).length ≤ n := by
  have b := nodup_len (lf_reach M.L.ins).1 (m := List.range rows.length) fun x hx => List.mem_range.mpr ((lf_reach M.L.ins).2.1 x hx)
  rw [List.length_range] at b
  have := M.hn
  omega
/-- the roads found stand for the states, in order -/
theorem Tab.found (M : Tab T f rows n) {later : List (List Bool)} (hl : ∀ r, r ∈ later ↔ r.length ≤ n - 1) :
    ∃ R, bGo (markT T later) n (n + 1) [[]] [] = some (R, rows.map fun l => (l.1.2, l.2.1.2)) ∧ R.map ((syOf rows).st 0) = List.range rows.length ∧ Short R := by
  have sh : Short [[]] := fun i v hi => by
    have := (List.getElem?_eq_some_iff.mp hi).1
    simp at this
    subst this
    cases hi
    simp
  have hm := M.states
  obtain ⟨R, r1, r2, r3⟩ := (M.marks hl).go (n + 1) [[]] [0] [] sh rfl (lf_inv0 M.L.ins) (by simp; omega)
  obtain ⟨iv, ln, _, q⟩ := lf_num M.L.ins
  rw [q (n + 1) (by omega)] at r1 r2
  rw [M.hb] at r1
  refine ⟨R, r1, ?_, r3⟩
  rw [r2]
  rw [M.hb] at ln
  refine List.ext_getElem? fun k => ?_
  by_cases c : k < rows.length
  · rw [lst_found M.L M.hb c, List.getElem?_range c]
  · rw [List.getElem?_eq_none (by omega), List.getElem?_eq_none (by simp; omega)]
end
/-- roads that stand for the states -/
structure Roads (T : List Bool → List Bool) (f : List Bool) (rows : List RowN) (n : Nat) (R : List (List Bool)) (mv : Nat → Nat × Nat) : Prop where
  M : Tab T f rows n
  map : R.map ((syOf rows).st 0) = List.range rows.length
  sh : Short R
  mv : ∀ k, k < rows.length → mv k = ((syOf rows).g k false, (syOf rows).g k true)
section
variable {T : List Bool → List Bool} {f : List Bool} {rows : List RowN} {n : Nat} {R : List (List Bool)} {mv : Nat → Nat × Nat}
theorem Roads.len (Q : Roads T f rows n R mv) : R.length = rows.length := by
  have := congrArg List.length Q.map
  simpa using this
theorem Roads.at (Q : Roads T f rows n R mv) {k : Nat} {v : List Bool} (hk : R[k]? = some v) : k < rows.length ∧ (syOf rows).st 0 v = k ∧ v.length + 1 ≤ 2 * n - 1 := by
  have kl := (List.getElem?_eq_some_iff.mp hk).1
  rw [Q.len] at kl
  have st : (R.map ((syOf rows).st 0))[k]? = some ((syOf rows).st 0 v) := by rw [List.getElem?_map, hk]; rfl
  rw [Q.map, List.getElem?_range kl] at st
  have l := Q.sh k v hk
  have := Q.M.hn
  exact ⟨kl, (Option.some.inj st).symm, by omega⟩
/-- the ends known so far -/
def IE (rows : List RowN) (E : Nat → Nat) : Prop := ∀ s, s < rows.length → E s ≤ ((syOf rows).e s).length
def sigE (rows : List RowN) (E : Nat → Nat) (s : Nat) : List Bool := cutE ((syOf rows).e s) (E s)
def xE (rows : List RowN) (E : Nat → Nat) (k : Nat) : List Bool := lcpW (lcpW ((syOf rows).e k) ((syOf rows).w k false ++ sigE rows E ((syOf rows).g k false))) ((syOf rows).w k true ++ sigE rows E ((syOf rows).g k true))
theorem xE_pre (rows : List RowN) (E : Nat → Nat) (k : Nat) : xE rows E k <+: (syOf rows).e k := (lcpW_left _ _).trans (lcpW_left _ _)
theorem Roads.sure (Q : Roads T f rows n R mv) {E : Nat → Nat} (h : IE rows E) {k : Nat} {v : List Bool} (hk : R[k]? = some v) : ∃ s, sureT T v (mv k) E = some s ∧ newE T v s = ((syOf rows).e k).length - (xE rows E k).length := by
  obtain ⟨kl, st, l⟩ := Q.at hk
  have e := Q.M.here (v := v) (by omega)
  have e0 := Q.M.next (v := v) (a := false) l
  have e1 := Q.M.next (v := v) (a := true) l
  rw [st] at e e0 e1
  have i0 := h _ (Q.M.L.ins.lt k false kl)
  have i1 := h _ (Q.M.L.ins.lt k true kl)
  refine ⟨(f ++ (syOf rows).out 0 v) ++ xE rows E k, ?_, ?_⟩
  · unfold sureT
    rw [Q.mv k kl]
    simp only [e, e0, e1]
    rw [if_neg (by simp only [List.length_append]; omega), if_neg (by simp only [List.length_append]; omega)]
    rw [cutE_app2 _ _ _ i0, cutE_app2 _ _ _ i1, lcpW_app, lcpW_app]
    rfl
  · unfold newE
    rw [e]
    simp only [List.length_append]
    omega
theorem Roads.pass (Q : Roads T f rows n R mv) : ∀ (r : List (List Bool)) (k : Nat) (z : (Nat → Nat) × Bool), (∀ i v, r[i]? = some v → R[k + i]? = some v) → IE rows z.1 → ∃ z', passE T mv k r z = some z' ∧ IE rows z'.1
  | [], k, z, _, h => ⟨z, rfl, h⟩
  | v :: r, k, z, hr, h => by
    have hv := hr 0 v rfl
    rw [Nat.add_zero] at hv
    obtain ⟨s, e1, e2⟩ := Q.sure h hv
    unfold passE
    rw [e1]
    refine Q.pass r (k + 1) _ (fun i w hi => by
      have := hr (i + 1) w (by simpa using hi)
      rwa [show k + (i + 1) = k + 1 + i by omega] at this) fun s' hs' => ?_
    simp only [updE]
    split
    · rename_i c
      subst c
      rw [e2]
      omega
    · exact h s' hs'
theorem Roads.fix (Q : Roads T f rows n R mv) {E : Nat → Nat} (h : IE rows E) (fx : ∀ k v, R[k]? = some v → ∃ s, sureT T v (mv k) E = some s ∧ E k = newE T v s) : ∀ k, k < rows.length → E k = ((syOf rows).e k).length := by
  have eq : ∀ k, k < rows.length → sigE rows E k <+: xE rows E k := fun k hk => by
    have hv := List.getElem?_eq_getElem (show k < R.length by rw [Q.len]; exact hk)
    obtain ⟨s, a, b⟩ := fx k _ hv
    obtain ⟨s', a', b'⟩ := Q.sure h hv
    rw [a] at a'
    cases a'
    rw [b'] at b
    have i := h k hk
    have xl := (xE_pre rows E k).length_le
    refine List.prefix_of_prefix_length_le (List.take_prefix ..) (xE_pre rows E k) ?_
    unfold sigE cutE
    rw [List.length_take]
    omega
  have run : ∀ (v : List Bool) (k : Nat), k < rows.length → sigE rows E k <+: (syOf rows).run k v := by
    intro v
    induction v with
    | nil => exact fun k _ => List.take_prefix ..
    | cons t v ih =>
      intro k hk
      have a := eq k hk
      have b : sigE rows E k <+: (syOf rows).w k t ++ sigE rows E ((syOf rows).g k t) := by
        cases t
        · exact a.trans ((lcpW_left _ _).trans (lcpW_right _ _))
        · exact a.trans (lcpW_right _ _)
      exact b.trans ((List.prefix_append_right_inj _).mpr (ih _ (Q.M.L.ins.lt k t hk)))
  intro k hk
  have := ((Q.M.L.sure k hk).2 _ fun v => run v k hk).length_le
  unfold sigE cutE at this
  rw [List.length_take, List.length_nil] at this
  have := h k hk
  omega
theorem sum_bound {E F : Nat → Nat} : ∀ m, (∀ k, k < m → E k ≤ F k) → sumE m E ≤ sumE m F
  | 0, _ => Nat.le_refl _
  | m + 1, h => by
    have := sum_bound m fun k hk => h k (by omega)
    have := h m (by omega)
    unfold sumE at *
    rw [List.range_succ, List.map_append, List.sum_append, List.map_append, List.sum_append]
    simp
    omega
theorem Roads.ends (Q : Roads T f rows n R mv) : ∀ (i : Nat) (E : Nat → Nat), IE rows E → JE T mv R E → sumE rows.length (fun s => ((syOf rows).e s).length) < i + sumE rows.length E → ∃ E', endsGo T mv R i E = some E' ∧ ∀ k, k < rows.length → E' k = ((syOf rows).e k).length
  | 0, E, h, _, l => by
    have := sum_bound rows.length h
    omega
  | i + 1, E, h, J, l => by
    obtain ⟨z, e, h'⟩ := Q.pass R 0 (E, false) (fun i v hi => by rwa [Nat.zero_add]) h
    obtain ⟨a, b, c, d⟩ := passE_ok R 0 (E, false) z (fun i v hi => by rwa [Nat.zero_add]) J e
    unfold endsGo
    rw [e]
    simp only
    by_cases g : z.2 = true
    · rw [if_pos g]
      refine Q.ends i z.1 h' a ?_
      rcases c g with c | c
      · cases c
      · rw [Q.len] at c
        simp only at c
        omega
    · rw [if_neg g]
      obtain ⟨_, d2, d3⟩ := d (by simpa using g)
      refine ⟨z.1, rfl, Q.fix h' fun k v hk => ?_⟩
      have := d3 k v hk
      rw [Nat.zero_add] at this
      simp only at this
      rw [d2]
      exact this
theorem sumE_map (F : Nat → Nat) : ∀ (R : List (List Bool)) (T : List Bool → List Bool), (∀ k v, R[k]? = some v → F k ≤ (T v).length) → sumE R.length F ≤ boundE T R := by
  intro R
  induction R generalizing F with
  | nil => intro T _; exact Nat.le_refl _
  | cons v R ih =>
    intro T h
    have a := ih (fun k => F (k + 1)) T fun k w hk => h (k + 1) w (by simpa using hk)
    have b := h 0 v rfl
    unfold sumE boundE at *
    rw [List.length_cons, List.range_succ_eq_map, List.map_cons, List.sum_cons, List.map_map, List.map_cons, List.sum_cons]
    have : ((List.range R.length).map (F ∘ Nat.succ)).sum = ((List.range R.length).map fun k => F (k + 1)).sum := rfl
    omega
theorem Roads.endsT (Q : Roads T f rows n R mv) : ∃ E, endsT T mv R = some E ∧ ∀ k, k < rows.length → E k = ((syOf rows).e k).length := by
  refine Q.ends _ _ (fun _ _ => Nat.zero_le _) (JE0 T mv R) ?_
  have := sumE_map (fun s => ((syOf rows).e s).length) R T fun k v hk => by
    obtain ⟨kl, st, l⟩ := Q.at hk
    have e := Q.M.here (v := v) (by omega)
    rw [st] at e
    rw [e, List.length_append]
    omega
  rw [Q.len] at this
  omega
end
end DL
namespace DL
--plain
open Sy
/-! ### machines told back -/
def wordB (T : List Bool → List Bool) (v : List Bool) (a : Bool) (e l : Nat) : List Bool := ((T (v ++ [a])).take ((T (v ++ [a])).length - l)).drop ((T v).length - e)
def mvAt (mv : List (Nat × Nat)) (k : Nat) : Nat × Nat := mv.getD k (0, 0)
def mfRow (T : List Bool → List Bool) (E : Nat → Nat) (v : List Bool) (p : Nat × Nat) (k : Nat) : RowN :=
  ((wordB T v false (E k) (E p.1), p.1), (wordB T v true (E k) (E p.2), p.2), (T v).drop ((T v).length - E k))
def mfX (T : List Bool → List Bool) (R : List (List Bool)) (mv : List (Nat × Nat)) (E : Nat → Nat) : List Bool × List RowN :=
  ((T []).take ((T []).length - E 0), (List.range R.length).map fun k => mfRow T E (R.getD k []) (mvAt mv k) k)
def mfT (T : List Bool → List Bool) (n : Nat) (later all : List (List Bool)) : Option (List Bool × List RowN) :=
  match bGo (markT T later) n (n + 1) [[]] [] with
  | none => none
  | some z => match endsT T (mvAt z.2) z.1 with
    | none => none
    | some E => if (∀ v ∈ all, runR (mfX T z.1 z.2 E).1 (mfX T z.1 z.2 E).2 v = T v) then some (mfX T z.1 z.2 E) else none
theorem wordB_at {P w e e' : List Bool} : ((P ++ (w ++ e')).take ((P ++ (w ++ e')).length - e'.length)).drop ((P ++ e).length - e.length) = w := by
  rw [List.length_append, List.length_append, List.length_append, ← List.append_assoc]
  rw [List.take_append_of_le_length (by rw [List.length_append]; omega), List.take_of_length_le (by rw [List.length_append]; omega)]
  rw [show P.length + e.length - e.length = P.length by omega, List.drop_left]
theorem tab_tells {T : List Bool → List Bool} {f : List Bool} {rows : List RowN} {n : Nat} (M : Tab T f rows n) {later all : List (List Bool)} (hl : ∀ r, r ∈ later ↔ r.length ≤ n - 1) (ha : ∀ v ∈ all, v.length ≤ 2 * n - 1) : mfT T n later all = some (f, rows) := by
  obtain ⟨R, r1, r2, r3⟩ := M.found hl
  have mvq : ∀ k, k < rows.length → mvAt (rows.map fun l => (l.1.2, l.2.1.2)) k = ((syOf rows).g k false, (syOf rows).g k true) := fun k hk => by
    unfold mvAt
    rw [List.getD_eq_getElem?_getD, List.getElem?_map, List.getElem?_eq_getElem hk]
    simp [syOf, List.getElem?_eq_getElem hk]
  have Q : Roads T f rows n R (mvAt (rows.map fun l => (l.1.2, l.2.1.2))) := ⟨M, r2, r3, mvq⟩
  obtain ⟨E, e1, e2⟩ := Q.endsT
  have X : mfX T R (rows.map fun l => (l.1.2, l.2.1.2)) E = (f, rows) := by
    have m0 := M.L.ins.1
    unfold mfX
    have t0 := M.here (v := []) (by simp)
    have o0 : (syOf rows).out 0 [] = [] := rfl
    have s0 : (syOf rows).st 0 [] = 0 := rfl
    rw [o0, List.append_nil, s0] at t0
    refine Prod.ext ?_ ?_
    · simp only
      rw [e2 0 m0, t0, List.length_append, List.take_append_of_le_length (by omega), List.take_of_length_le (by omega)]
    · simp only
      refine List.ext_getElem? fun k => ?_
      rw [Q.len, List.getElem?_map]
      by_cases hk : k < rows.length
      · rw [List.getElem?_range hk, List.getElem?_eq_getElem hk]
        have hv := List.getElem?_eq_getElem (show k < R.length by rw [Q.len]; exact hk)
        obtain ⟨_, st, l⟩ := Q.at hv
        have gd : R.getD k [] = R[k]'(by rw [Q.len]; exact hk) := by rw [List.getD_eq_getElem?_getD, hv]; rfl
        simp only [Option.map_some, gd]
        generalize R[k]'(by rw [Q.len]; exact hk) = v at st l
        have e := M.here (v := v) (by omega)
        have n0 := M.next (v := v) (a := false) l
        have n1 := M.next (v := v) (a := true) l
        rw [st] at e n0 n1
        unfold mfRow wordB
        rw [mvq k hk]
        simp only
        rw [e2 k hk, e2 _ (M.L.ins.lt k false hk), e2 _ (M.L.ins.lt k true hk), e, n0, n1, wordB_at, wordB_at]
        congr 1
        simp only [syOf, List.getElem?_eq_getElem hk]
        rw [List.length_append, show ∀ a b : Nat, a + b - b = a by omega, List.drop_left]
        rfl
      · rw [List.getElem?_eq_none (by simpa using hk), List.getElem?_eq_none (by omega)]
        rfl
  unfold mfT
  rw [r1]
  simp only
  rw [e1]
  simp only
  rw [X, if_pos]
  exact fun v hv => (M.tab v (ha v hv)).symm
/-- the least form is told back -/
theorem mf_least {T : List Bool → List Bool} {f : List Bool} {rows : List RowN} {n : Nat} (h : rowsIn rows) (hn : (lfM f rows).2.length ≤ n) (ht : ∀ v, v.length ≤ 2 * n - 1 → T v = runR f rows v) {later all : List (List Bool)} (hl : ∀ r, r ∈ later ↔ r.length ≤ n - 1) (ha : ∀ v ∈ all, v.length ≤ 2 * n - 1) : mfT T n later all = some (lfM f rows) :=
  tab_tells (n := n) (f := (lfM f rows).1) (rows := (lfM f rows).2) ⟨lst_of h f, (by have := congrArg (fun z : List Bool × List RowN => z.2) (lf_lf (f := f) h); exact this), hn, fun v hv => by rw [ht v hv]; exact (lf_run h f v).symm⟩ hl ha
/-- what the roads found are -/
structure Found (n : Nat) (f : List (List Bool)) (mv : List (Nat × Nat)) : Prop where
  pos : f[0]? = some []
  le : f.length ≤ n
  mvs : ∀ p ∈ mv, p.1 < f.length ∧ p.2 < f.length
  few : mv.length ≤ f.length
  sh : Short f
section
variable {α : Type} [DecidableEq α] {mk : List Bool → α} {n : Nat}
theorem bAdd_idx (f : List (List Bool)) (r : List Bool) : ((bAdd mk f r).map mk).idxOf (mk r) < (bAdd mk f r).length := by
  have : mk r ∈ (bAdd mk f r).map mk := by
    unfold bAdd
    split
    · assumption
    · simp
  have := List.idxOf_lt_length_of_mem this
  rwa [List.length_map] at this
theorem bAdd_pre (f : List (List Bool)) (r : List Bool) : f <+: bAdd mk f r := by
  unfold bAdd
  split
  · exact List.prefix_refl _
  · exact List.prefix_append ..
theorem Found.step {f : List (List Bool)} {mv : List (Nat × Nat)} (h : Found n f mv) {r : List Bool} (hr : f[mv.length]? = some r) (c : ¬ n < (bStep mk f r).1.length) : Found n (bStep mk f r).1 (mv ++ [(bStep mk f r).2]) := by
  have p1 := bAdd_pre (mk := mk) f (r ++ [false])
  have p2 := bAdd_pre (mk := mk) (bAdd mk f (r ++ [false])) (r ++ [true])
  have l1 := p1.length_le
  have l2 := p2.length_le
  have z : (bStep mk f r).1 = bAdd mk (bAdd mk f (r ++ [false])) (r ++ [true]) := rfl
  have lr := (List.getElem?_eq_some_iff.mp hr).1
  have few := h.few
  refine ⟨?_, by omega, fun p hp => ?_, ?_, h.sh.step hr⟩
  · obtain ⟨q, e⟩ := p1.trans p2
    rw [z, ← e]
    exact Sy.get_app h.pos q
  · rcases List.mem_append.mp hp with hp | hp
    · have := h.mvs p hp
      rw [z]
      omega
    · rw [List.mem_singleton.mp hp]
      have i1 := bAdd_idx (mk := mk) f (r ++ [false])
      have i2 := bAdd_idx (mk := mk) (bAdd mk f (r ++ [false])) (r ++ [true])
      rw [z]
      exact ⟨Nat.lt_of_lt_of_le i1 l2, i2⟩
  · rw [z, List.length_append, List.length_singleton]
    omega
theorem Found.go : ∀ (k : Nat) (f : List (List Bool)) (mv : List (Nat × Nat)), Found n f mv → ∀ z, bGo mk n k f mv = some z → Found n z.1 z.2 ∧ z.2.length = z.1.length
  | 0, f, mv, h, z, e => by cases e
  | k + 1, f, mv, h, z, e => by
    unfold bGo at e
    cases q : f[mv.length]? with
    | none =>
      rw [q] at e
      cases e
      exact ⟨h, Nat.le_antisymm h.few (List.getElem?_eq_none_iff.mp q)⟩
    | some r =>
      rw [q] at e
      simp only at e
      split at e
      · cases e
      · rename_i c
        exact Found.go k _ _ (h.step q c) z e
theorem found0 (hn : 1 ≤ n) : Found n [[]] [] := ⟨rfl, by simpa using hn, by simp, by simp, fun i v hi => by
  have := (List.getElem?_eq_some_iff.mp hi).1
  simp at this
  subst this
  cases hi
  simp⟩
end
theorem mf_sound {T : List Bool → List Bool} {n : Nat} (hn : 1 ≤ n) {later all : List (List Bool)} {X : List Bool × List RowN} (h : mfT T n later all = some X) : rowsIn X.2 ∧ X.2.length ≤ n ∧ ∀ v ∈ all, runR X.1 X.2 v = T v := by
  unfold mfT at h
  cases q : bGo (markT T later) n (n + 1) [[]] [] with
  | none => rw [q] at h; cases h
  | some z =>
    rw [q] at h
    simp only at h
    obtain ⟨F, ml⟩ := Found.go (n + 1) _ _ (found0 hn) z q
    cases q2 : endsT T (mvAt z.2) z.1 with
    | none => rw [q2] at h; cases h
    | some E =>
      rw [q2] at h
      simp only at h
      split at h
      · rename_i a
        cases h
        have len : (mfX T z.1 z.2 E).2.length = z.1.length := by unfold mfX; simp
        have p := (List.getElem?_eq_some_iff.mp F.pos).1
        refine ⟨⟨by omega, fun r hr => ?_⟩, by rw [len]; exact F.le, a⟩
        rw [len]
        unfold mfX at hr
        simp only [List.mem_map, List.mem_range] at hr
        obtain ⟨k, hk, rfl⟩ := hr
        have m : mvAt z.2 k ∈ z.2 := by
          unfold mvAt
          rw [List.getD_eq_getElem?_getD, List.getElem?_eq_getElem (by omega)]
          exact List.getElem_mem _
        exact F.mvs _ m
      · cases h
/-- all machines of so many states that write a table have the told machine as their least form -/
theorem mf_all {T : List Bool → List Bool} {n : Nat} (hn : 1 ≤ n) {later all : List (List Bool)} (hl : ∀ r, r ∈ later ↔ r.length ≤ n - 1) (ha : ∀ v, v ∈ all ↔ v.length ≤ 2 * n - 1) {f : List Bool} {rows : List RowN} (h : rowsIn rows) (l : (lfM f rows).2.length ≤ n) (ht : ∀ v ∈ all, runR f rows v = T v) : mfT T n later all = some (lfM f rows) :=
  mf_least h l (fun v hv => (ht v ((ha v).mpr hv)).symm) hl fun v hv => (ha v).mp hv
theorem mf_self {T : List Bool → List Bool} {n : Nat} (hn : 1 ≤ n) {later all : List (List Bool)} (hl : ∀ r, r ∈ later ↔ r.length ≤ n - 1) (ha : ∀ v, v ∈ all ↔ v.length ≤ 2 * n - 1) {X : List Bool × List RowN} (h : mfT T n later all = some X) : lfM X.1 X.2 = X := by
  obtain ⟨a, b, c⟩ := mf_sound hn h
  have := mf_all hn hl ha a (Nat.le_trans (lf_rows a X.1).2 b) c
  rw [h] at this
  exact (Option.some.inj this).symm
end DL
namespace DL
--plain
open Sy
/-! ### two machines side by side -/
theorem Par.eq {p q a b x y : List Bool} (h : Par a x b y) (e : p ++ a = q ++ b) : p ++ x = q ++ y := by
  obtain ⟨c1, c2, c, d, rfl, rfl, rfl, rfl⟩ := h
  rw [← List.append_assoc, ← List.append_assoc] at e
  rw [← List.append_assoc, ← List.append_assoc, List.append_cancel_right e]
theorem Par.of_eq {p q a b x y : List Bool} (e1 : p ++ a = q ++ b) (e2 : p ++ x = q ++ y) : Par a x b y := by
  rcases List.append_eq_append_iff.mp e1 with ⟨z, rfl, rfl⟩ | ⟨z, rfl, rfl⟩
  · rw [List.append_assoc] at e2
    exact ⟨z, [], b, y, rfl, List.append_cancel_left e2, rfl, rfl⟩
  · rw [List.append_assoc] at e2
    exact ⟨[], z, a, x, rfl, rfl, rfl, (List.append_cancel_left e2).symm⟩
def duo (A B : Sy) (m : Nat) : Sy where
  w := fun s t => if s < m then A.w s t else B.w (s - m) t
  g := fun s t => if s < m then A.g s t else m + B.g (s - m) t
  e := fun s => if s < m then A.e s else B.e (s - m)
theorem duo_left {A B : Sy} {m : Nat} (hc : ∀ s a, s < m → A.g s a < m) : ∀ (v : List Bool) (s : Nat), s < m → (duo A B m).run s v = A.run s v
  | [], s, hs => by simp [run, duo, hs]
  | t :: v, s, hs => by
    have e1 : (duo A B m).w s t = A.w s t := by simp [duo, hs]
    have e2 : (duo A B m).g s t = A.g s t := by simp [duo, hs]
    show (duo A B m).w s t ++ (duo A B m).run ((duo A B m).g s t) v = A.w s t ++ A.run (A.g s t) v
    rw [e1, e2, duo_left hc v _ (hc s t hs)]
theorem duo_right {A B : Sy} {m : Nat} : ∀ (v : List Bool) (s : Nat), (duo A B m).run (m + s) v = B.run s v
  | [], s => by simp [run, duo]; intro; omega
  | t :: v, s => by
    have e1 : (duo A B m).w (m + s) t = B.w s t := by simp [duo]; intro; omega
    have e2 : (duo A B m).g (m + s) t = m + B.g s t := by simp [duo]; intro; omega
    show (duo A B m).w (m + s) t ++ (duo A B m).run ((duo A B m).g (m + s) t) v = B.w s t ++ B.run (B.g s t) v
    rw [e1, e2, duo_right v _]
/-- as many turns as states less one tell whether states go on alike -/
theorem Sy.Go.all {S : Sy} {m : Nat} (m0 : 0 < m) (hc : ∀ s a, s < m → S.g s a < m) {s t : Nat} (hs : s < m) (ht : t < m) (h : S.Go (m - 1) s t) : ∀ k, S.Go k s t := by
  have one : ∀ j, (∀ s t, s < m → t < m → S.Go j s t → ∀ k, S.Go k s t) ∨ j + 1 ≤ clsN (goK S m j) (List.range m) := by
    intro j
    induction j with
    | zero => exact .inr (clsN_pos (s := 0) (List.mem_range.mpr m0))
    | succ j ih =>
      rcases ih with ih | ih
      · exact .inl fun s t hs ht g => ih s t hs ht (g.le (by omega))
      · have fine : ∀ s ∈ List.range m, ∀ t ∈ List.range m, goK S m (j + 1) s = goK S m (j + 1) t → goK S m j s = goK S m j t := fun s hs t ht e =>
          (goK_iff (List.mem_range.mp hs) (List.mem_range.mp ht)).mpr (((goK_iff (List.mem_range.mp hs) (List.mem_range.mp ht)).mp e).le (by omega))
        have le := fine_le fine
        by_cases c : clsN (goK S m j) (List.range m) = clsN (goK S m (j + 1)) (List.range m)
        · left
          have same := same_classes fine c
          have st : ∀ s t, s < m → t < m → S.Go j s t → S.Go (j + 1) s t := fun s t hs ht g =>
            (goK_iff hs ht).mp (same s (List.mem_range.mpr hs) t (List.mem_range.mpr ht) ((goK_iff hs ht).mpr g))
          intro s t hs ht g k
          rcases Nat.le_total k j with l | l
          · exact g.le (by omega)
          · have := Sy.Go.stable hc st (k - j) s t hs ht (g.le (by omega))
            rwa [Nat.add_sub_cancel' l] at this
        · right
          omega
  rcases one (m - 1) with h1 | h1
  · exact h1 s t hs ht h
  · have idn : clsN (fun s : Nat => s) (List.range m) = m := by
      refine Nat.le_antisymm (by simpa using clsN_le (fun s : Nat => s) (List.range m)) ?_
      have := nodup_len (l := List.range m) (m := ded ((List.range m).map fun s => s)) List.nodup_range fun x hx => ded_mem.mpr (by simpa using hx)
      rw [List.length_range] at this
      exact this
    have le := clsN_le (goK S m (m - 1)) (List.range m)
    rw [List.length_range] at le
    have c : clsN (goK S m (m - 1)) (List.range m) = clsN (fun s : Nat => s) (List.range m) := by
      rw [idn]
      omega
    have := same_classes (fun a _ b _ (e : a = b) => by subst e; rfl) c s (List.mem_range.mpr hs) t (List.mem_range.mpr ht) ((goK_iff hs ht).mpr h)
    subst this
    exact fun k => .refl S k s
theorem run_nil (S : Sy) (s : Nat) : S.run s [] = S.e s := rfl
/-- machines that write the same for the roads of at most m + n - 1 turns write the same -/
theorem alike_bound {f1 f2 : List Bool} {r1 r2 : List RowN} (h1 : rowsIn r1) (h2 : rowsIn r2) (h : ∀ v : List Bool, v.length ≤ r1.length + r2.length - 1 → runR f1 r1 v = runR f2 r2 v) (v : List Bool) : runR f1 r1 v = runR f2 r2 v := by
  let m := r1.length
  let D := duo (syOf r1) (syOf r2) m
  have dl : ∀ v, D.run 0 v = (syOf r1).run 0 v := fun v => duo_left (fun s a hs => h1.lt s a hs) v 0 h1.1
  have dr : ∀ v, D.run m v = (syOf r2).run 0 v := fun v => duo_right (A := syOf r1) (m := m) v 0
  have e0 : f1 ++ (syOf r1).run 0 [] = f2 ++ (syOf r2).run 0 [] := h [] (Nat.zero_le _)
  have cl : ∀ s a, s < m + r2.length → D.g s a < m + r2.length := fun s a hs => by
    show (if s < m then (syOf r1).g s a else m + (syOf r2).g (s - m) a) < _
    split
    · rename_i c
      have : (syOf r1).g s a < m := h1.lt s a c
      omega
    · have := h2.lt (s - m) a (by omega)
      omega
  have p1 := h1.1
  have p2 := h2.1
  have base : D.Go (m + r2.length - 1) 0 m := fun r hr => by
    show Par (D.run 0 []) _ (D.run m []) _
    rw [dl, dr, dl, dr]
    exact Par.of_eq e0 (h r hr)
  have go := Sy.Go.all (by omega) cl (s := 0) (t := m) (by omega) (by omega) base v.length v (Nat.le_refl _)
  have go : Par (D.run 0 []) (D.run 0 v) (D.run m []) (D.run m v) := go
  rw [dl, dr, dl, dr] at go
  exact go.eq e0
/-- where two roads lead to the same states, and the machines write the same for both, they go on alike -/
theorem same_on {A B : Sy} {f1 f2 : List Bool} {r u x : List Bool} (hs : A.st 0 r = A.st 0 u) (ht : B.st 0 r = B.st 0 u) (hr : f1 ++ A.run 0 r = f2 ++ B.run 0 r) (hu : f1 ++ A.run 0 u = f2 ++ B.run 0 u)
    (h : f1 ++ A.run 0 (u ++ x) = f2 ++ B.run 0 (u ++ x)) : f1 ++ A.run 0 (r ++ x) = f2 ++ B.run 0 (r ++ x) := by
  have sp : ∀ (S : Sy) (w : List Bool), S.run 0 w = S.out 0 w ++ S.e (S.st 0 w) := fun S w => by
    have := S.run_out w [] 0
    rw [List.append_nil] at this
    exact this
  rw [run_out, run_out, ← List.append_assoc, ← List.append_assoc] at h ⊢
  rw [sp A, sp B, ← List.append_assoc, ← List.append_assoc] at hr hu
  rw [hs, ht] at hr ⊢
  exact (Par.of_eq hu h).eq hr
end DL
namespace DL
open PySem PySem.Spec PyProof.Rows L2
/-! ### loops over states -/
theorem while_at {α : Type} {s : DTT} {u : DTS} {E : DEnds} (st : α → DEnv) (I : α → Prop) (μ : α → Nat) (test : α → Bool) {x0 : α} (h0 : I x0)
    (ht : ∀ x, I x → ∀ K : Bool → DEnv → Prop, K (test x) (st x) → s (st x) K)
    (body : ∀ x, I x → test x = true → ∀ N : DEnv → Prop, (∀ y, I y → μ y < μ x → N (st y)) → u { E with nx := N, ct := N, bk := E.nx } (st x))
    (done : ∀ x, I x → test x = false → E.nx (st x)) : sWhile s u E (st x0) := by
  refine while_of (fun m ρ => ∃ x, I x ∧ m = μ x ∧ ρ = st x) ⟨_, x0, h0, rfl, rfl⟩ ?_
  rintro m ρ ⟨x, hx, rfl, rfl⟩
  refine ⟨test x, ht x hx, fun e N hN => body x hx e N fun y hy lt => hN _ _ lt ⟨y, hy, rfl, rfl⟩, done x hx⟩
theorem for_at {α β : Type} {g : DTG} {u : DTS} {E : DEnds} (f : α → PyData) (st : β → DEnv) (I : List α → β → Prop) (done : ∀ b, I [] b → E.nx (st b))
    (step : ∀ x r b, I (x :: r) b → ∀ N : DEnv → Prop, (∀ b', I r b' → N (st b')) → g (f x) (st b) fun ρ1 => u { E with nx := N, ct := N, bk := E.nx } ρ1) : ∀ (xs : List α) (b : β), I xs b → forGo g u E (xs.map f) (st b)
  | [], b, h => done b h
  | x :: r, b, h => step x r b h _ fun b' h' => for_at f st I done step r b' h'
/-- a comprehension over told things that leaves the names as they are -/
theorem lc_at {α : Type} {g : DTG} {tt : DTT} {te : DT} {vs : List Nat} {ρ : DEnv} (f : α → PyData) (r : α → PyData) (xs : List α) {q : PyData → DEnv → Prop} (hp : plainC ρ vs = true)
    (step : ∀ x ∈ xs, ∀ (Q1 : PyData → DEnv → Prop) (Q2 : DEnv → Prop), (∀ ρ4, backD ρ ρ4 vs = ρ → Q1 (r x) ρ4) → g (f x) (wipeD ρ vs) fun ρ1 => tt ρ1 fun b ρ2 => if b = true then te ρ2 fun o ρ3 => o.tk ρ3 Q1 else Q2 ρ2)
    (hl : xs.length ≤ 16777216) (h : q (.list (xs.map r)) ρ) : lcGo g tt te vs (xs.map f) [] ρ q := by
  have go : ∀ (ys : List α) (acc : List PyData), (∀ y ∈ ys, y ∈ xs) → acc.length + ys.length ≤ 16777216 → q (.list (acc ++ ys.map r)) ρ → lcGo g tt te vs (ys.map f) acc ρ q := by
    intro ys
    induction ys with
    | nil =>
      intro acc _ _ h
      simpa [lcGo] using h
    | cons y ys ih =>
      intro acc hm hl h
      rw [List.length_cons] at hl
      refine step y (hm y (List.mem_cons_self ..)) _ _ fun ρ4 e => ⟨by omega, by rw [e]; exact hp, ?_⟩
      rw [e]
      refine ih (acc ++ [r y]) (fun z hz => hm z (List.mem_cons_of_mem _ hz)) (by rw [List.length_append, List.length_singleton]; omega) ?_
      rw [List.append_assoc]
      exact h
  exact go xs [] (fun _ h => h) (by simpa using hl) h
theorem natAbs_if (i : Int) : (if i < 0 then -i else i) = (i.natAbs : Int) := by
  split <;> omega
theorem if_if {P Q A B : Prop} [Decidable P] [Decidable Q] : (if P then (if Q then A else B) else B) = (if P ∧ Q then A else B) := by
  by_cases h : P <;> by_cases h2 : Q <;> simp [h, h2]
theorem repW (t : Bool) (k : Nat) : S (repS (enc [t]) (k : Int)) = Wd (List.replicate k t) := by
  unfold repS Wd enc
  rw [Int.toNat_natCast]
  congr 1
  induction k with
  | zero => rfl
  | succ k ih => rw [List.replicate_succ, List.flatten_cons, ih, List.replicate_succ]; rfl
/-! ### dicts that number a list's things -/
def numG {α : Type} (en : α → PyData) : Nat → List α → List (PyData × PyData)
  | _, [] => []
  | k, x :: r => (en x, .int (k : Nat)) :: numG en (k + 1) r
theorem numG_len {α : Type} (en : α → PyData) : ∀ (xs : List α) (k : Nat), (numG en k xs).length = xs.length
  | [], _ => rfl
  | _ :: r, k => congrArg Nat.succ (numG_len en r (k + 1))
theorem numG_app {α : Type} (en : α → PyData) (x : α) : ∀ (xs : List α) (k : Nat), numG en k (xs ++ [x]) = numG en k xs ++ [(en x, .int ((k + xs.length : Nat) : Int))]
  | [], k => rfl
  | y :: r, k => by
    show (en y, _) :: numG en (k + 1) (r ++ [x]) = _
    rw [numG_app en x r (k + 1)]
    show _ = (en y, _) :: (numG en (k + 1) r ++ _)
    rw [List.length_cons, show k + 1 + r.length = k + (r.length + 1) by omega]
section
variable {α : Type} [DecidableEq α] {en : α → PyData} {kb : PyData → PyData → Bool} (hk : ∀ a b : α, kb (en a) (en b) = decide (a = b))
include hk
theorem numG_look (x : α) : ∀ (xs : List α) (k : Nat), dLook (numG en k xs) (fun e => kb e (en x)) = if x ∈ xs then some (.int ((k + xs.idxOf x : Nat) : Int)) else none
  | [], k => by simp [dLook, numG]
  | y :: r, k => by
    have ih := numG_look x r (k + 1)
    unfold dLook at ih ⊢
    show ((List.find? (fun e => kb e.1 (en x)) ((en y, _) :: numG en (k + 1) r)).map (·.2)) = _
    by_cases e : y = x
    · subst e
      rw [List.find?_cons_of_pos (by show kb (en y) (en y) = true; rw [hk]; simp)]
      simp
    · rw [List.find?_cons_of_neg (by show ¬ kb (en y) (en x) = true; rw [hk]; simpa using e), ih]
      have e' : ¬ x = y := fun z => e z.symm
      by_cases m : x ∈ r
      · have e2 : (y :: r).idxOf x = r.idxOf x + 1 := by
          rw [List.idxOf_cons, show (y == x) = false by simpa using e]
          rfl
        rw [if_pos m, if_pos (List.mem_cons_of_mem _ m), e2]
        congr 3
        omega
      · rw [if_neg m, if_neg (by simp [e', m])]
theorem numG_any (x : α) : ∀ (xs : List α) (k : Nat), ((numG en k xs).any fun e => kb e.1 (en x)) = decide (x ∈ xs)
  | [], k => by simp [numG]
  | y :: r, k => by
    show (kb (en y) (en x) || (numG en (k + 1) r).any fun e => kb e.1 (en x)) = _
    rw [numG_any x r (k + 1), hk]
    by_cases e : y = x
    · subst e; simp
    · have e' : ¬ x = y := fun z => e z.symm
      simp [e, e']
end
theorem numT_get {α : Type} [DecidableEq α] {en : α → PyData} (hk : ∀ a b : α, keyBT (en a) (en b) = decide (a = b)) (x : α) (xs : List α) : dGetT (numG en 0 xs) (en x) = if x ∈ xs then some (.int (xs.idxOf x : Nat)) else none := by
  unfold dGetT
  rw [numG_look hk]
  simp
theorem numT_put {α : Type} [DecidableEq α] {en : α → PyData} (hk : ∀ a b : α, keyBT (en a) (en b) = decide (a = b)) {x : α} {xs : List α} (h : x ∉ xs) : dPutT (numG en 0 xs) (en x) (.int (xs.length : Nat)) = numG en 0 (xs ++ [x]) := by
  unfold dPutT
  rw [numG_any hk, if_neg (by simpa using h), numG_app]
  simp
theorem numK_get {α : Type} [DecidableEq α] {en : α → PyData} (hk : ∀ a b : α, keyB (en a) (en b) = decide (a = b)) (x : α) (xs : List α) : dGetD (numG en 0 xs) (en x) = if x ∈ xs then some (.int (xs.idxOf x : Nat)) else none := by
  unfold dGetD
  rw [numG_look hk]
  simp
theorem numK_put {α : Type} [DecidableEq α] {en : α → PyData} (hk : ∀ a b : α, keyB (en a) (en b) = decide (a = b)) {x : α} {xs : List α} (h : x ∉ xs) : dPutD (numG en 0 xs) (en x) (.int (xs.length : Nat)) = numG en 0 (xs ++ [x]) := by
  unfold dPutD
  rw [numG_any hk, if_neg (by simpa using h), numG_app]
  simp
theorem zip2_at {α β : Type} (f : α → PyData) (g : β → PyData) : ∀ (xs : List α) (ys : List β), zip2D (xs.map f) (ys.map g) = (xs.zip ys).map fun p => .tuple [f p.1, g p.2]
  | [], _ => by simp [zip2D]
  | _ :: _, [] => by simp [zip2D]
  | x :: xs, y :: ys => by
    have ih := zip2_at f g xs ys
    unfold zip2D at ih ⊢
    simp [ih]
/-- a loop over a range, by its number -/
theorem for_idx {β : Type} {g : DTG} {u : DTS} {E : DEnds} (st : β → DEnv) (I : Nat → β → Prop) (n : Nat) (done : ∀ b, I n b → E.nx (st b))
    (step : ∀ k b, k < n → I k b → ∀ N : DEnv → Prop, (∀ b', I (k + 1) b' → N (st b')) → g (.int (k : Nat)) (st b) fun ρ1 => u { E with nx := N, ct := N, bk := E.nx } ρ1) (b : β) (h : I 0 b) : forGo g u E ((List.range n).map fun k => .int (k : Nat)) (st b) := by
  rw [List.range_eq_range']
  refine for_at (fun k : Nat => PyData.int k) st (fun r b => ∃ k, k ≤ n ∧ r = List.range' k (n - k) ∧ I k b) ?_ ?_ (List.range' 0 n) b ⟨0, Nat.zero_le _, by simp, h⟩
  · rintro b ⟨k, hk, hr, hI⟩
    have : k = n := by
      have := congrArg List.length hr
      simp at this
      omega
    subst this
    exact done b hI
  · rintro s r b ⟨k, hk, hr, hI⟩ N hN
    obtain ⟨j, hj⟩ : ∃ j, n - k = j + 1 := by
      cases c : n - k with
      | zero => rw [c] at hr; cases hr
      | succ j => exact ⟨j, rfl⟩
    rw [hj, List.range'_succ] at hr
    obtain ⟨rfl, rfl⟩ := List.cons.inj hr
    exact step s b (by omega) hI N fun b' hb => hN b' ⟨s + 1, by omega, by congr 1; omega, hb⟩
end DL
namespace DL
open PySem PySem.Spec PyProof.Rows L2
/-! ### grids -/
theorem grid_at {α : Type} {g : DTG} {te : DTF} {vs : List Nat} {ρ : DEnv} (f : α → PyData) (r : α → List PyData) (xs : List α) {q : List (List PyData) → DEnv → Prop} (hp : plainC ρ vs = true)
    (step : ∀ x ∈ xs, ∀ (Q : PyData → DEnv → Prop), (∀ ρ4, backD ρ ρ4 vs = ρ → Q (.list (r x)) ρ4) → g (f x) (wipeD ρ vs) fun ρ1 => te ρ1 Q)
    (hf : ∀ x ∈ xs, flats (r x) = true) (hl : xs.length ≤ 16777216) (h : q (xs.map r) ρ) : gridGo g te vs (xs.map f) [] ρ q := by
  have go : ∀ (ys : List α) (acc : List (List PyData)), (∀ y ∈ ys, y ∈ xs) → acc.length + ys.length ≤ 16777216 → q (acc ++ ys.map r) ρ → gridGo g te vs (ys.map f) acc ρ q := by
    intro ys
    induction ys with
    | nil =>
      intro acc _ _ h
      simpa [gridGo] using h
    | cons y ys ih =>
      intro acc hm hl h
      rw [List.length_cons] at hl
      refine step y (hm y (List.mem_cons_self ..)) _ fun ρ4 e => ⟨_, rfl, hf y (hm y (List.mem_cons_self ..)), by omega, by rw [e]; exact hp, ?_⟩
      rw [e]
      refine ih (acc ++ [r y]) (fun z hz => hm z (List.mem_cons_of_mem _ hz)) (by rw [List.length_append, List.length_singleton]; omega) ?_
      rw [List.append_assoc]
      exact h
  exact go xs [] (fun _ h => h) (by simpa using hl) h
end DL
namespace DL
open PySem PySem.Spec PyProof.Rows L2
/-! ### dicts from numbers -/
@[simp] theorem cut_2 {α : Type} {xs : List α} : cutD xs none (some 2) = xs.take 2 := cut_to (k := 2)
@[simp] theorem cut_toN {α : Type} {xs : List α} {k : Nat} : cutD xs none (some (k : Int)) = xs.take k := cut_to
@[simp] theorem cut_fromN {α : Type} {xs : List α} {k : Nat} : cutD xs (some (k : Int)) none = xs.drop k := cut_from
@[simp] theorem enc_take (w : List Bool) (k : Nat) : (enc w).take k = enc (w.take k) := by unfold enc; rw [List.map_take]
@[simp] theorem enc_drop (w : List Bool) (k : Nat) : (enc w).drop k = enc (w.drop k) := by unfold enc; rw [List.map_drop]
def dictOf (en : Nat → PyData) (xs : List Nat) : List (PyData × PyData) := xs.map fun s => (.int (s : Nat), en s)
@[simp] theorem kDict_of (en : Nat → PyData) (xs : List Nat) : kDict (dictOf en xs) = true := by cases xs <;> exact id rfl
@[simp] theorem dictOf_len (en : Nat → PyData) (xs : List Nat) : (dictOf en xs).length = xs.length := by simp [dictOf]
@[simp] theorem isKey_int (i : Int) : isKey (.int i) = true := id rfl
@[simp] theorem isKey_str (x : Str) : isKey (.str x) = true := id rfl
theorem dictOf_get {en : Nat → PyData} {xs : List Nat} {s : Nat} (h : s ∈ xs) : dGetD (dictOf en xs) (.int (s : Nat)) = some (en s) := by
  unfold dGetD dLook dictOf
  induction xs with
  | nil => cases h
  | cons x xs ih =>
    rw [List.map_cons]
    by_cases e : x = s
    · subst e
      rw [List.find?_cons_of_pos (by simp [keyB])]
      rfl
    · rw [List.find?_cons_of_neg (by simp [keyB]; omega)]
      exact ih ((List.mem_cons.mp h).resolve_left fun q => e q.symm)
theorem dictOf_put {en : Nat → PyData} {xs : List Nat} {s : Nat} {d : PyData} (h : s ∈ xs) : dPutD (dictOf en xs) (.int (s : Nat)) d = dictOf (fun y => if y = s then d else en y) xs := by
  unfold dPutD
  have a : ((dictOf en xs).any fun e => keyB e.1 (.int (s : Nat))) = true := by
    rw [List.any_eq_true]
    exact ⟨(.int (s : Nat), en s), List.mem_map.mpr ⟨s, h, rfl⟩, by simp [keyB]⟩
  rw [if_pos a]
  unfold dictOf
  rw [List.map_map]
  refine List.map_congr_left fun y _ => ?_
  by_cases e : y = s
  · subst e
    simp [keyB]
  · have : ¬ ((y : Int) = (s : Int)) := by omega
    simp [keyB, e, this]
theorem dictOf_add {en : Nat → PyData} {xs : List Nat} {s : Nat} {d : PyData} (h : s ∉ xs) (he : en s = d) : dPutD (dictOf en xs) (.int (s : Nat)) d = dictOf en (xs ++ [s]) := by
  unfold dPutD
  have a : ¬ ((dictOf en xs).any fun e => keyB e.1 (.int (s : Nat))) = true := by
    rw [List.any_eq_true]
    rintro ⟨e, he, k⟩
    obtain ⟨y, hy, rfl⟩ := List.mem_map.mp he
    simp [keyB] at k
    subst k
    exact h hy
  rw [if_neg a]
  unfold dictOf
  rw [List.map_append, ← he]
  rfl
/-- a dict comprehension over unlike numbers -/
theorem dc_at {g : DTG} {tt : DTT} {tk tv : DT} {vs : List Nat} {ρ : DEnv} (en : Nat → PyData) (xs : List Nat) {q : PyData → DEnv → Prop} (hp : plainC ρ vs = true) (hn : xs.Nodup)
    (step : ∀ x ∈ xs, ∀ (Q1 : PyData → PyData → DEnv → Prop) (Q2 : DEnv → Prop), (∀ ρ4, backD ρ ρ4 vs = ρ → Q1 (.int (x : Nat)) (en x) ρ4) →
      g (.int (x : Nat)) (wipeD ρ vs) fun ρ1 => tt ρ1 fun b ρ2 => if b = true then tk ρ2 fun ok ρ3 => tv ρ3 fun ov ρ4 => ok.rd ρ4 fun ek => ov.tk ρ4 fun ed ρ5 => Q1 ek ed ρ5 else Q2 ρ2)
    (hl : xs.length ≤ 16777216) (h : q (.dict (dictOf en xs)) ρ) : dcGo g tt tk tv vs (xs.map fun s => .int (s : Nat)) [] ρ q := by
  have go : ∀ (ys zs : List Nat), zs ++ ys = xs → dcGo g tt tk tv vs (ys.map fun s => .int (s : Nat)) (dictOf en zs) ρ q := by
    intro ys
    induction ys with
    | nil =>
      intro zs e
      rw [List.append_nil] at e
      subst e
      exact h
    | cons y ys ih =>
      intro zs e
      have hy : y ∈ xs := by rw [← e]; simp
      have ny : y ∉ zs := by
        rw [← e] at hn
        have := (List.nodup_append.mp hn).2.2
        exact fun z => this y z y (by simp) rfl
      have l : zs.length < xs.length := by rw [← e]; simp
      refine step y hy (fun ek ed ρ5 => isKey ek = true ∧ (dictOf en zs).length < 16777216 ∧ plainC (backD ρ ρ5 vs) vs = true ∧ dcGo g tt tk tv vs (ys.map fun s => .int (s : Nat)) (dPutD (dictOf en zs) ek ed) (backD ρ ρ5 vs) q) _ fun ρ4 e4 => ⟨rfl, by rw [dictOf_len]; omega, by rw [e4]; exact hp, ?_⟩
      rw [e4, dictOf_add ny rfl]
      exact ih (zs ++ [y]) (by rw [List.append_assoc]; exact e)
  exact go xs [] rfl
theorem keyB_int (a b : Nat) : keyB (.int (a : Int)) (.int (b : Int)) = decide (a = b) := by
  show ((a : Int) == (b : Int)) = _
  rw [Bool.eq_iff_iff]
  simp
theorem dictOf_none {en : Nat → PyData} {xs : List Nat} {s : Nat} (h : s ∉ xs) : dGetD (dictOf en xs) (.int (s : Nat)) = none := by
  unfold dGetD dLook dictOf
  rw [Option.map_eq_none_iff, List.find?_eq_none]
  intro e he
  obtain ⟨y, hy, rfl⟩ := List.mem_map.mp he
  simp [keyB]
  rintro rfl
  exact h hy
end DL
namespace DL
open PySem PySem.Spec PyProof.Rows L2
def F_has_turns_alone : DF := fun ds q => ∃ w : List Bool, ds = [Wd w] ∧ w.length ≤ 16777216 ∧ q (.bool true) .none
theorem bools_true : ∀ (n : Nat), boolsOf (List.replicate n (.bool true)) = some (List.replicate n true)
  | 0 => rfl
  | n + 1 => by simp only [List.replicate_succ, boolsOf, bools_true n, Option.map_some]
theorem mem_enc {c : Nat} {w : List Bool} (h : c ∈ enc w) : c ∈ [76, 82] := by
  obtain ⟨b, _, rfl⟩ := List.mem_map.mp h
  cases b <;> decide
theorem pl_has_turns_alone : PL_has_turns_alone F_has_turns_alone := by
  intro ds q a _ h
  obtain ⟨w, rfl, hl, hq⟩ := h
  refine ⟨_, rfl, rfl, lcGo_map (fun _ => .bool true) rfl _ _ _ (fun d hd Q1 Q2 k => ?_) ?_ ?_⟩
  · obtain ⟨c, hc, rfl⟩ := List.mem_map.mp hd
    refine ⟨c, rfl, ?_⟩
    show Q1 (.bool (decide (c ∈ [76, 82]))) _
    rw [decide_eq_true (mem_enc hc)]
    exact k _ rfl
  · rw [List.length_map]
    show 0 + (enc w).length ≤ _
    rw [enc_len]; omega
  · refine ⟨List.replicate w.length true, ?_, ?_⟩
    · rw [← bools_true, List.nil_append, List.map_map]
      congr 1
      show (L (mk (enc w))).map (fun _ => PyData.bool true) = _
      rw [List.map_const', L_mk, enc_len]
    · show q (.bool ((List.replicate w.length true).all id)) .none
      have : (List.replicate w.length true).all id = true := by
        rw [List.all_eq_true]
        intro b hb
        rw [(List.mem_replicate.mp hb).2]; rfl
      rw [this]
      exact hq
def F_check_road : DF := fun ds q => ∃ w : List Bool, ds = [Wd w] ∧ w.length ≤ 16777216 ∧ q .none .none
theorem pl_check_road : PL_check_road F_check_road F_has_turns_alone := by
  intro ds q a _ h
  obtain ⟨w, rfl, hl, hq⟩ := h
  exact ⟨rfl, w, rfl, hl, .inl rfl, hq⟩
def F_check_number : DF := fun ds q => ∃ n m : Int, ds = [.int n, .int m] ∧ m ≤ n ∧ q .none .none
theorem pl_check_number : PL_check_number F_check_number := by
  intro ds q a _ h
  obtain ⟨n, m, rfl, hl, hq⟩ := h
  refine ⟨trivial, ?_⟩
  show if decide (n < m) = true then _ else _
  rw [if_neg (by simpa using hl)]
  exact hq
/-- a machine: the beginning, the rows -/
abbrev Move := List Bool × Nat
abbrev Row := Move × Move × List Bool
def mvD (m : Move) : PyData := .tuple [Wd m.1, .int m.2]
def rowD (r : Row) : PyData := .tuple [mvD r.1, mvD r.2.1, Wd r.2.2]
def macD (f : List Bool) (rows : List Row) : PyData := .tuple [Wd f, .list (rows.map rowD)]
def mvOk (n : Nat) (m : Move) : Prop := m.1.length ≤ 16777216 ∧ m.2 < n
def rowOk (n : Nat) (r : Row) : Prop := mvOk n r.1 ∧ mvOk n r.2.1 ∧ r.2.2.length ≤ 16777216
def macOk (f : List Bool) (rows : List Row) : Prop := f.length ≤ 16777216 ∧ 0 < rows.length ∧ ∀ r ∈ rows, rowOk rows.length r
def F_is_move : DF := fun ds q => ∃ (m : Move) (n : Nat), ds = [mvD m, .int n] ∧ mvOk n m ∧ q (.bool true) .none
theorem pl_is_move : PL_is_move F_is_move F_has_turns_alone := by
  intro ds q a _ h
  obtain ⟨m, n, rfl, ⟨h1, h2⟩, hq⟩ := h
  refine ⟨rfl, rfl, rfl, m.1, rfl, h1, .inl rfl, trivial, ?_⟩
  show (match PyData.bool (decide ((0 : Int) ≤ (m.2 : Nat))) with | .bool b => if b = true then _ else _ | _ => False)
  rw [decide_eq_true (p := (0 : Int) ≤ (m.2 : Nat)) (by omega)]
  refine ⟨trivial, ?_⟩
  show q (.bool (decide (((m.2 : Nat) : Int) < n))) .none
  rw [decide_eq_true (by omega)]
  exact hq
def F_check_machine : DF := fun ds q => ∃ f rows, ds = [macD f rows] ∧ macOk f rows ∧ q .none .none
theorem pl_check_machine : PL_check_machine F_check_machine F_has_turns_alone F_is_move := by
  intro ds q a _ h
  obtain ⟨f, rows, rfl, ⟨h1, h2, h3⟩, hq⟩ := h
  refine ⟨rfl, rfl, rfl, rfl, ?_⟩
  have e : PyData.eqv (.int ((rows.map rowD).length : Nat)) (.int 0) = false := by
    rw [eqv_int, List.length_map]
    exact decide_eq_false (by omega)
  rw [e]
  refine ⟨rfl, f, rfl, h1, .inl rfl, ?_⟩
  refine ⟨_, rfl, ?_⟩
  refine forGo_inv (fun r ρ => (∃ rs : List Row, r = rs.map rowD ∧ ∀ x ∈ rs, rowOk rows.length x) ∧ ∃ x1 x2 x3, ρ = [some (.val (macD f rows)), some (.val (.int (rows.length : Nat))), some (.val (Wd f)), some (.val (.list (rows.map rowD))), x1, x2, x3]) (fun ρ _ => hq) (fun d r ρ N hN hI => ?_) _ _ ⟨⟨rows, rfl, h3⟩, none, none, none, ?_⟩
  · obtain ⟨⟨rs, e, ok⟩, x1, x2, x3, rfl⟩ := hI
    cases rs with
    | nil => cases e
    | cons x rs =>
      cases e
      obtain ⟨o1, o2, o3⟩ := ok x (List.mem_cons_self ..)
      refine ⟨rfl, rfl, rfl, x.1, rows.length, rfl, o1, .inl rfl, rfl, x.2.1, rows.length, rfl, o2, .inl rfl, rfl, x.2.2, rfl, o3, .inl rfl, ?_⟩
      exact hN _ ⟨⟨rs, rfl, fun y hy => ok y (List.mem_cons_of_mem _ hy)⟩, _, _, _, rfl⟩
  · simp only [List.length_map]
    rfl
end DL
namespace DL
open PySem PySem.Spec PyProof.Rows L2
def F_shared_start : DF := fun ds q => ∃ a b : List Bool, ds = [Wd a, Wd b] ∧ a.length ≤ 16777216 ∧ q (Wd (lcpW a b)) .none
theorem lcp_app : ∀ (p a b : List Bool), lcp (p ++ a) (p ++ b) = p.length + lcp a b
  | [], a, b => by simp
  | x :: p, a, b => by
    show (if x = x then lcp (p ++ a) (p ++ b) + 1 else 0) = _
    rw [if_pos rfl, lcp_app p a b, List.length_cons]
    omega
theorem lcp_zip {a b : List Bool} (h : a.zip b = []) : lcp a b = 0 := by
  cases a with
  | nil => cases b <;> rfl
  | cons x a =>
    cases b with
    | nil => rfl
    | cons y b => simp at h
theorem pl_shared_start : PL_shared_start F_shared_start := by
  intro ds q a0 _ h
  obtain ⟨a, b, rfl, hl, hq⟩ := h
  unfold lcpW at hq
  simp [t_shared_start, -e_forGo1]
  rw [zip2_at]
  refine for_at (α := Bool × Bool) (β := Nat × Option Cell × Option Cell) _ (fun z => [some (.val (Wd a)), some (.val (Wd b)), some (.val (.int z.1)), z.2.1, z.2.2])
    (fun r z => ∃ p a' b', a = p ++ a' ∧ b = p ++ b' ∧ z.1 = p.length ∧ r = a'.zip b') ?_ ?_ (a.zip b) (0, none, none) ⟨[], a, b, rfl, rfl, rfl, rfl⟩
  · rintro ⟨m, x3, x4⟩ ⟨p, a', b', ea, eb, em, er⟩
    simp only at em
    subst em ea eb
    rw [lcp_app, lcp_zip er.symm] at hq
    simp
    exact ⟨by simpa using hl, by simpa using hq⟩
  · rintro ⟨x, y⟩ r ⟨m, x3, x4⟩ ⟨p, a', b', ea, eb, em, er⟩ N hN
    simp only at em
    subst em
    cases a' with
    | nil => simp at er
    | cons x' a' =>
      cases b' with
      | nil => simp at er
      | cons y' b' =>
        simp only [List.zip_cons_cons, List.cons.injEq, Prod.mk.injEq] at er
        obtain ⟨⟨rfl, rfl⟩, rfl⟩ := er
        simp
        by_cases c : x = y
        · subst c
          rw [if_pos rfl]
          have := hN (p.length + 1, some (.val (Wd [x])), some (.val (Wd [x]))) ⟨p ++ [x], a', b', by rw [ea]; simp, by rw [eb]; simp, by simp, rfl⟩
          simpa using this
        · rw [if_neg c]
          refine ⟨hl, ?_⟩
          have e : lcp a b = p.length := by
            rw [ea, eb, lcp_app]
            show p.length + (if x = y then _ else 0) = _
            rw [if_neg c]
            rfl
          rw [e] at hq
          exact hq
/-- a row's two moves -/
theorem row_two (r : Row) : rowD r = .tuple [mvD r.1, mvD r.2.1, Wd r.2.2] := rfl
def F_states_come_to : DF := fun ds q => ∃ rows : List Row, ds = [.list (rows.map rowD)] ∧ rowsIn rows ∧ rows.length ≤ 1000000 ∧ q (.list ((lfStates rows).map fun s => .int (s : Nat))) .none
theorem pl_states_come_to : PL_states_come_to F_states_come_to := by
  intro ds q a0 _ h
  obtain ⟨rows, rfl, hr, hl, hq⟩ := h
  simp [t_states_come_to]
  intro p2 p3
  let S := syOf rows
  have closed : ∀ s t, s < rows.length → S.g s t < rows.length := fun s t h => hr.lt s t h
  refine while_at (α := (List Nat × Nat) × Option Cell × Option Cell)
    (fun z => [some (.val (.list (rows.map rowD))), some (.val (.int z.1.2)), some (.own p2 (.list (z.1.1.map fun s => .int (s : Nat)))), some (.own p3 (.dict (dictOf (fun _ => .bool true) z.1.1))), z.2.1, z.2.2])
    (fun z => z.1.1.Nodup ∧ (∀ s ∈ z.1.1, s < rows.length) ∧ z.1.2 ≤ z.1.1.length ∧ ∃ n, S.reachGo n z.1.1 z.1.2 = lfStates rows ∧ rows.length < n + z.1.2)
    (fun z => rows.length + 1 - z.1.2) (fun z => decide (z.1.2 < z.1.1.length)) (x0 := (([0], 0), none, none)) ⟨by simp, by simpa using hr.1, by simp, rows.length + 1, rfl, by omega⟩ ?_ ?_ ?_
  · rintro ⟨⟨f, k⟩, x4, x5⟩ _ K hK
    simp at hK ⊢
    exact hK
  · rintro ⟨⟨f, k⟩, x4, x5⟩ ⟨nd, lt, le, n, e, ln⟩ ht N hN
    simp at nd lt le e ln ht hN
    obtain ⟨s, hs⟩ : ∃ s, f[k]? = some s := ⟨_, List.getElem?_eq_getElem ht⟩
    have ms := List.mem_of_getElem? hs
    obtain ⟨r, hrow⟩ : ∃ r, rows[s]? = some r := ⟨_, List.getElem?_eq_getElem (lt s ms)⟩
    have short : f.length ≤ rows.length := by
      have := nodup_len nd (m := List.range rows.length) fun x hx => List.mem_range.mpr (lt x hx)
      simpa using this
    have g0 : S.g s false = r.1.2 := by simp [S, syOf, hrow]
    have g1 : S.g s true = r.2.1.2 := by simp [S, syOf, hrow]
    have fin := fun (x4 x5 : Option Cell) => hN (addL (addL f r.1.2) r.2.1.2) (k + 1) x4 x5 (addL_nodup (addL_nodup nd)) (fun y hy => by
      rcases addL_sub hy with h | h
      · rcases addL_sub h with h | h
        · exact lt y h
        · rw [h, ← g0]; exact closed s _ (lt s ms)
      · rw [h, ← g1]; exact closed s _ (lt s ms)) (by
      have := ((addL_pre f r.1.2).trans (addL_pre _ r.2.1.2)).length_le
      omega) (n - 1) (by
        rw [← e, ← g0, ← g1]
        cases n with
        | zero => omega
        | succ n =>
          show _ = (match f[k]? with | none => f | some s => S.reachGo n (addL (addL f (S.g s false)) (S.g s true)) (k + 1))
          rw [hs]
          rfl) (by omega) (by omega)
    simp [hs, hrow, rowD, mvD]
    by_cases c0 : r.1.2 ∈ f
    · have a0 : addL f r.1.2 = f := if_pos c0
      rw [a0] at fin
      rw [dictOf_get c0]
      by_cases c1 : r.2.1.2 ∈ f
      · have a1 : addL f r.2.1.2 = f := if_pos c1
        rw [a1] at fin
        rw [dictOf_get c1]
        simp
        exact fin _ _
      · have a1 : addL f r.2.1.2 = f ++ [r.2.1.2] := if_neg c1
        rw [a1] at fin
        rw [dictOf_none c1, dictOf_add c1 rfl]
        simp
        refine ⟨by omega, ?_⟩
        simpa using fin _ _
    · have a0 : addL f r.1.2 = f ++ [r.1.2] := if_neg c0
      rw [a0] at fin
      rw [dictOf_none c0, dictOf_add c0 rfl]
      by_cases c1 : r.2.1.2 ∈ f ++ [r.1.2]
      · have a1 : addL (f ++ [r.1.2]) r.2.1.2 = f ++ [r.1.2] := if_pos c1
        rw [a1] at fin
        rw [dictOf_get c1]
        simp
        refine ⟨by omega, ?_⟩
        simpa using fin _ _
      · have a1 : addL (f ++ [r.1.2]) r.2.1.2 = f ++ [r.1.2] ++ [r.2.1.2] := if_neg c1
        rw [a1] at fin
        rw [dictOf_none c1, dictOf_add c1 rfl]
        simp
        refine ⟨by omega, by omega, ?_⟩
        simpa using fin _ _
  · rintro ⟨⟨f, k⟩, x4, x5⟩ ⟨nd, lt, le, n, e, ln⟩ ht
    simp at nd lt le e ln ht
    have short : f.length ≤ rows.length := by
      have := nodup_len nd (m := List.range rows.length) fun x hx => List.mem_range.mpr (lt x hx)
      simpa using this
    have e2 : lfStates rows = f := by
      rw [← e]
      cases n with
      | zero => omega
      | succ n =>
        show (match f[k]? with | none => f | some s => S.reachGo n (addL (addL f (S.g s false)) (S.g s true)) (k + 1)) = f
        rw [List.getElem?_eq_none ht]
    rw [e2] at hq
    simpa using hq
end DL
namespace DL
open PySem PySem.Spec PyProof.Rows L2
/-- words that are not too long -/
def wordsIn (rows : List Row) : Prop := rows.length ≤ 1000000 ∧ ∀ r ∈ rows, r.1.1.length ≤ 1000000 ∧ r.2.1.1.length ≤ 1000000 ∧ r.2.2.length ≤ 1000000
theorem wordsIn.e {rows : List Row} (h : wordsIn rows) (s : Nat) : ((syOf rows).e s).length ≤ 1000000 := by
  simp only [syOf]
  cases e : rows[s]? with
  | none => simp
  | some r => exact (h.2 r (List.mem_of_getElem? e)).2.2
theorem wordsIn.w {rows : List Row} (h : wordsIn rows) (s : Nat) (t : Bool) : ((syOf rows).w s t).length ≤ 1000000 := by
  simp only [syOf]
  cases e : rows[s]? with
  | none => simp
  | some r =>
    cases t
    · exact (h.2 r (List.mem_of_getElem? e)).1
    · exact (h.2 r (List.mem_of_getElem? e)).2.1
def F_sure_words : DF := fun ds q => ∃ rows : List Row, ds = [.list (rows.map rowD), .list ((lfStates rows).map fun s => .int (s : Nat))] ∧ rowsIn rows ∧ wordsIn rows ∧ q (.dict (dictOf (fun s => Wd (lfSure rows s)) (lfStates rows))) .none
theorem pl_sure_words : PL_sure_words F_sure_words F_shared_start := by
  intro ds q a0 _ h
  obtain ⟨rows, rfl, hr, hw, hq⟩ := h
  obtain ⟨xn, xb, xc, _, _⟩ := lf_reach hr
  have xl : (lfStates rows).length ≤ 1000000 := by
    have := nodup_len xn (m := List.range rows.length) fun x hx => List.mem_range.mpr (xb x hx)
    have := hw.1
    simp at *
    omega
  simp [t_sure_words]
  refine dc_at (fun s => Wd ((syOf rows).e s)) (lfStates rows) rfl xn (fun s hs Q1 Q2 hQ => ?_) (by omega) ?_
  · obtain ⟨r, hrow⟩ : ∃ r, rows[s]? = some r := ⟨_, List.getElem?_eq_getElem (xb s hs)⟩
    have es : (syOf rows).e s = r.2.2 := by simp [syOf, hrow]
    rw [es] at hQ
    simp [hrow, rowD]
    exact hQ _ rfl
  simp
  intro p2
  refine while_at (α := (Nat → List Bool) × Bool × Option Cell × Option Cell × Option Cell × Option Cell)
    (fun z => [some (.val (.list (rows.map rowD))), some (.val (.list ((lfStates rows).map fun s => .int (s : Nat)))), some (.own p2 (.dict (dictOf (fun s => Wd (z.1 s)) (lfStates rows)))), some (.val (.bool z.2.1)), z.2.2.1, z.2.2.2.1, z.2.2.2.2.1, z.2.2.2.2.2])
    (fun z => (∀ s, z.1 s <+: (syOf rows).e s) ∧ (z.2.1 = true → ∃ n, (syOf rows).sureGo (lfStates rows) n z.1 = lfSure rows ∧ Sy.total (lfStates rows) z.1 < n) ∧ (z.2.1 = false → z.1 = lfSure rows))
    (fun z => if z.2.1 then Sy.total (lfStates rows) z.1 + 1 else 0) (fun z => z.2.1) (x0 := ((syOf rows).e, true, none, none, none, none))
    ⟨fun s => List.prefix_refl _, fun _ => ⟨_, rfl, Nat.lt_succ_self _⟩, fun h => by cases h⟩ ?_ ?_ ?_
  · rintro ⟨σ, c, x4, x5, x6, x7⟩ _ K hK
    simp at hK ⊢
    exact hK
  · rintro ⟨σ, c, x4, x5, x6, x7⟩ ⟨pre, it, _⟩ ht N hN
    simp only at pre it ht hN
    subst ht
    obtain ⟨n, e, ln⟩ := it rfl
    simp [-e_forGo1]
    refine for_at (α := Nat) (β := ((Nat → List Bool) × Bool) × Option Cell × Option Cell × Option Cell × Option Cell) (fun s => .int (s : Nat))
      (fun z => [some (.val (.list (rows.map rowD))), some (.val (.list ((lfStates rows).map fun s => .int (s : Nat)))), some (.own p2 (.dict (dictOf (fun s => Wd (z.1.1 s)) (lfStates rows)))), some (.val (.bool z.1.2)), z.2.1, z.2.2.1, z.2.2.2.1, z.2.2.2.2])
      (fun r z => r.foldl (syOf rows).passOne z.1 = (syOf rows).pass (lfStates rows) σ ∧ (∀ s ∈ r, s ∈ lfStates rows) ∧ ∀ s, z.1.1 s <+: (syOf rows).e s) ?_ ?_ (lfStates rows) ((σ, false), x4, x5, x6, x7) ⟨rfl, fun _ h => h, pre⟩
    · rintro ⟨⟨σ', c'⟩, y4, y5, y6, y7⟩ ⟨e', _, pre'⟩
      simp only [List.foldl_nil] at e' pre'
      have e1 : (((syOf rows).pass (lfStates rows) σ).1, ((syOf rows).pass (lfStates rows) σ).2) = (σ', c') := e'.symm
      refine hN (σ', c', y4, y5, y6, y7) ⟨pre', fun hc => ?_, fun hc => ?_⟩ ?_
      · simp only at hc
        subst hc
        cases n with
        | zero => omega
        | succ n =>
          have fl : ((syOf rows).pass (lfStates rows) σ).2 = true := congrArg Prod.snd e'.symm
          have s1 : ((syOf rows).pass (lfStates rows) σ).1 = σ' := congrArg Prod.fst e'.symm
          have tt := Sy.pass_total fl
          rw [s1] at tt
          refine ⟨n, ?_, by show Sy.total _ σ' < n; omega⟩
          rw [← e]
          show _ = (if ((syOf rows).pass (lfStates rows) σ).2 = true then (syOf rows).sureGo (lfStates rows) n ((syOf rows).pass (lfStates rows) σ).1 else σ)
          rw [if_pos fl, s1]
      · simp only at hc
        subst hc
        have fl : ¬ ((syOf rows).pass (lfStates rows) σ).2 = true := by
          rw [show ((syOf rows).pass (lfStates rows) σ).2 = false from congrArg Prod.snd e'.symm]
          exact Bool.false_ne_true
        have s1 : ((syOf rows).pass (lfStates rows) σ).1 = σ' := congrArg Prod.fst e'.symm
        have s2 := (Sy.pass_flag fl).1
        rw [s1] at s2
        show σ' = _
        rw [s2, ← e]
        cases n with
        | zero => omega
        | succ n =>
          show σ = (if ((syOf rows).pass (lfStates rows) σ).2 = true then (syOf rows).sureGo (lfStates rows) n ((syOf rows).pass (lfStates rows) σ).1 else σ)
          rw [if_neg fl]
      · cases c' with
        | false => simp
        | true =>
          have fl : ((syOf rows).pass (lfStates rows) σ).2 = true := congrArg Prod.snd e'.symm
          have s1 : ((syOf rows).pass (lfStates rows) σ).1 = σ' := congrArg Prod.fst e'.symm
          have tt := Sy.pass_total fl
          rw [s1] at tt
          simp
          exact tt
    · rintro s r ⟨⟨σ', c'⟩, y4, y5, y6, y7⟩ ⟨e', mem, pre'⟩ M hM
      simp only at e' mem pre' hM
      have hs := mem s (List.mem_cons_self ..)
      obtain ⟨rw_, hrow⟩ : ∃ r, rows[s]? = some r := ⟨_, List.getElem?_eq_getElem (xb s hs)⟩
      have w0 : (syOf rows).w s false = rw_.1.1 := by simp [syOf, hrow]
      have w1 : (syOf rows).w s true = rw_.2.1.1 := by simp [syOf, hrow]
      have g0 : (syOf rows).g s false = rw_.1.2 := by simp [syOf, hrow]
      have g1 : (syOf rows).g s true = rw_.2.1.2 := by simp [syOf, hrow]
      have m0 : rw_.1.2 ∈ lfStates rows := by rw [← g0]; exact xc s hs false
      have m1 : rw_.2.1.2 ∈ lfStates rows := by rw [← g1]; exact xc s hs true
      have len : ∀ y, (σ' y).length ≤ 1000000 := fun y => Nat.le_trans (pre' y).length_le (hw.e y)
      have wl := hw.2 rw_ (List.mem_of_getElem? hrow)
      simp [dictOf_get hs, hrow, rowD, mvD, dictOf_get m0]
      refine ⟨by have := len rw_.1.2; omega, _, _, rfl, by have := len s; omega, ?_⟩
      simp [dictOf_get m1]
      refine ⟨by have := len rw_.2.1.2; omega, _, _, rfl, ?_, ?_⟩
      · have := (lcpW_left (σ' s) (rw_.1.1 ++ σ' rw_.1.2)).length_le
        have := len s
        omega
      have nw : lcpW (lcpW (σ' s) (rw_.1.1 ++ σ' rw_.1.2)) (rw_.2.1.1 ++ σ' rw_.2.1.2) = (syOf rows).newS σ' s := by
        unfold Sy.newS
        rw [w0, w1, g0, g1]
      rw [nw]
      simp [dictOf_get hs]
      by_cases c : (syOf rows).newS σ' s = σ' s
      · rw [if_pos c]
        have e1 : (syOf rows).passOne (σ', c') s = (σ', c') := if_pos c
        refine hM ((σ', c'), _, _, _, _) ⟨?_, fun y hy => mem y (List.mem_cons_of_mem _ hy), pre'⟩
        rw [← e', List.foldl_cons, e1]
      · rw [if_neg c]
        have e1 : (syOf rows).passOne (σ', c') s = (Sy.upd σ' s ((syOf rows).newS σ' s), true) := if_neg c
        refine ⟨by omega, ?_⟩
        rw [dictOf_put hs]
        have fn : (fun y => if y = s then PyData.str (mk (enc ((syOf rows).newS σ' s))) else Wd (σ' y)) = fun y => Wd (Sy.upd σ' s ((syOf rows).newS σ' s) y) := by
          funext y
          unfold Sy.upd
          split <;> rfl
        rw [fn]
        refine hM ((Sy.upd σ' s ((syOf rows).newS σ' s), true), _, _, _, _) ⟨?_, fun y hy => mem y (List.mem_cons_of_mem _ hy), fun y => ?_⟩
        · rw [← e', List.foldl_cons, e1]
        · have := Sy.passOne_pre (syOf rows) (σ', c') s y
          rw [e1] at this
          exact this.trans (pre' y)
  · rintro ⟨σ, c, x4, x5, x6, x7⟩ ⟨pre, _, fin⟩ ht
    simp only at ht fin
    subst ht
    rw [fin rfl]
    simp
    exact hq
end DL
namespace DL
open PySem PySem.Spec PyProof.Rows L2
def sRow (S : Sy) (s : Nat) : Row := ((S.w s false, S.g s false), (S.w s true, S.g s true), S.e s)
def keyKD : Sy.K → PyData
  | .ws l r e => .tuple [Wd l, Wd r, Wd e]
  | .ns a b c => .tuple [.int (a : Nat), .int (b : Nat), .int (c : Nat)]
theorem keyB_W (a b : List Bool) : keyB (Wd a) (Wd b) = decide (a = b) := by
  rw [Bool.eq_iff_iff]
  simp [keyB]
theorem keyBT_K (a b : Sy.K) : keyBT (keyKD a) (keyKD b) = decide (a = b) := by
  rw [Bool.eq_iff_iff]
  cases a <;> cases b <;> simp [keyKD, keyBT, keysEq, keyB]
theorem isKeyT_K (a : Sy.K) : isKeyT (keyKD a) = true := by cases a <;> exact id rfl
theorem foldl_addL {α : Type} [DecidableEq α] (xs : List α) (x : α) (l : List α) : (x :: xs).foldl addL l = xs.foldl addL (addL l x) := rfl
theorem addL_len {α : Type} [DecidableEq α] (l : List α) (x : α) : (addL l x).length ≤ l.length + 1 := by
  unfold addL
  split <;> simp
theorem dictN_num {α : Type} (en : α → PyData) (l : List α) : dictN ((.none, .none) :: numG en 0 l) = l.length := numG_len en l 0
def F_class_numbers : DF := fun ds q => ∃ (S : Sy) (states : List Nat), ds = [.dict (dictOf (fun s => rowD (sRow S s)) states), .list (states.map fun s => .int (s : Nat))] ∧ S.Closed states ∧ states.Nodup ∧ 0 < states.length ∧ states.length ≤ 1000000 ∧ q (.dict (dictOf (fun s => .int (S.clsAll states s : Nat)) states)) .none
theorem pl_class_numbers : PL_class_numbers F_class_numbers := by
  intro ds q a0 _ h
  obtain ⟨S, states, rfl, hc, hn, h0, hl, hq⟩ := h
  simp [t_class_numbers]
  refine dc_at (fun s => keyKD (S.key0 s)) states rfl hn (fun s hs Q1 Q2 hQ => ?_) (by omega) ?_
  · simp [dictOf_get hs, rowD, sRow, mvD]
    exact hQ _ rfl
  simp
  refine while_at (α := ((Nat → Sy.K) × Nat) × Option Cell × Option PyData × Option Cell)
    (fun z => [some (.val (.dict (dictOf (fun s => rowD (sRow S s)) states))), some (.val (.list (states.map fun s => .int (s : Nat)))), some (.val (.dict (dictOf (fun s => keyKD (z.1.1 s)) states))), some (.val (.int z.1.2)), z.2.1, z.2.2.1.map .val, z.2.2.2])
    (fun z => z.1.2 ≤ clsN z.1.1 states ∧ ∃ n, S.clsGo states n z.1.2 z.1.1 = S.clsAll states ∧ states.length < n + z.1.2)
    (fun z => states.length + 1 - z.1.2) (fun z => true) (x0 := ((S.key0, 0), none, none, none)) ⟨Nat.zero_le _, states.length + 1, rfl, by simp⟩ ?_ ?_ ?_
  · rintro ⟨⟨κ, m⟩, x4, x5, x6⟩ _ K hK
    simp at hK ⊢
    exact hK
  · rintro ⟨⟨κ, m⟩, x4, x5, x6⟩ ⟨le, n, e, ln⟩ ht N hN
    simp at le e ln hN
    simp [-e_forGo1]
    intro p4
    refine for_at (α := Nat) (β := List Sy.K × Option PyData) (fun s => .int (s : Nat))
      (fun z => [some (.val (.dict (dictOf (fun s => rowD (sRow S s)) states))), some (.val (.list (states.map fun s => .int (s : Nat)))), some (.val (.dict (dictOf (fun s => keyKD (κ s)) states))), some (.val (.int m)), some (.own p4 (.dict ((.none, .none) :: numG keyKD 0 z.1))), z.2.map .val, x6])
      (fun r z => (r.map κ).foldl addL z.1 = ded (states.map κ) ∧ (∀ s ∈ r, s ∈ states) ∧ z.1.length + r.length ≤ states.length) ?_ ?_ states ([], x5) ⟨rfl, fun _ h => h, by simp⟩
    · rintro ⟨l, y5⟩ ⟨el, _, _⟩
      simp only [List.map_nil, List.foldl_nil] at el
      subst el
      have pl : plainC [some (.val (.dict (dictOf (fun s => rowD (sRow S s)) states))), some (.val (.list (states.map fun s => .int (s : Nat)))), some (.val (.dict (dictOf (fun s => keyKD (κ s)) states))), some (.val (.int m)), some (.own p4 (.dict ((.none, .none) :: numG keyKD 0 (ded (states.map κ))))), y5.map .val, x6] [5] = true := by
        cases y5 <;> rfl
      simp
      refine dc_at (fun s => .int (clsOf κ states s : Nat)) states pl hn (fun s hs Q1 Q2 hQ => ?_) (by omega) ?_
      · simp [dictOf_get hs, isKeyT_K, numT_get keyBT_K, ded_mem, show (∃ a, a ∈ states ∧ κ a = κ s) from ⟨s, hs, rfl⟩]
        exact hQ _ (by cases y5 <;> rfl)
      simp [dictN_num]
      change if clsN κ states = m then _ else _
      cases n with
      | zero =>
        have := clsN_le κ states
        omega
      | succ n =>
        have e' : (if clsN κ states = m then clsOf κ states else S.clsGo states n (clsN κ states) (S.keyN (clsOf κ states))) = S.clsAll states := e
        by_cases c : clsN κ states = m
        · rw [if_pos c] at e' ⊢
          rw [e']
          exact hq
        · rw [if_neg c] at e' ⊢
          have f1 : clsN κ states ≤ clsN (S.keyN (clsOf κ states)) states := fine_le fun a ha b hb z => by
            unfold Sy.keyN at z
            rw [Sy.K.ns.injEq] at z
            exact (cls_iff ha hb).mp z.1
          refine dc_at (fun s => keyKD (S.keyN (clsOf κ states) s)) states (by cases y5 <;> rfl) hn (fun s hs Q1 Q2 hQ => ?_) (by omega) ?_
          · simp [dictOf_get hs, rowD, sRow, mvD, dictOf_get (hc s hs false), dictOf_get (hc s hs true)]
            exact hQ _ (by cases y5 <;> rfl)
          · simp
            exact hN (S.keyN (clsOf κ states)) (clsN κ states) _ _ _ f1 n e' (by omega) (by have := clsN_le κ states; omega)
    · rintro s r ⟨l, y5⟩ ⟨el, mem, ll⟩ M hM
      have hs := mem s (List.mem_cons_self ..)
      simp only [List.length_cons] at ll
      have fin := hM (addL l (κ s), some (.int (s : Nat))) ⟨el, fun y hy => mem y (List.mem_cons_of_mem _ hy), by have := addL_len l (κ s); show (addL l (κ s)).length + _ ≤ _; omega⟩
      simp [dictOf_get hs, isKeyT_K, numG_len, dictN_num, numT_get keyBT_K]
      refine ⟨by omega, ?_⟩
      by_cases c : κ s ∈ l
      · rw [if_pos c]
        rw [show addL l (κ s) = l from if_pos c] at fin
        simpa using fin
      · rw [if_neg c, numT_put keyBT_K c]
        rw [show addL l (κ s) = l ++ [κ s] from if_neg c] at fin
        simpa using fin
  · rintro ⟨⟨κ, m⟩, x4, x5, x6⟩ _ ht
    cases ht
open Sy
theorem dictOf_get0 {en : Nat → PyData} {xs : List Nat} (h : 0 ∈ xs) : dGetD (dictOf en xs) (.int 0) = some (en 0) := dictOf_get h
abbrev intN (s : Nat) : PyData := .int (s : Nat)
theorem mem_snoc {α : Type} (x : α) (l : List α) : x ∈ l ++ [x] := by simp
@[simp] theorem kDict_num (xs : List Nat) : kDict (numG intN 0 xs) = true := by cases xs <;> exact id rfl
def F_numbered_rows : DF := fun ds q => ∃ (S : Sy) (states : List Nat) (c : Nat → Nat), ds = [.dict (dictOf (fun s => rowD (sRow S s)) states), .dict (dictOf (fun s => intN (c s)) states)] ∧ S.Closed states ∧ NumInv S states c [0] [] ∧ states.length ≤ 1000000 ∧ q (.list ((numGo S c (states.length + 1) [0] []).2.map rowD)) .none
theorem pl_numbered_rows : PL_numbered_rows F_numbered_rows := by
  intro ds q a0 _ h
  obtain ⟨S, states, c, rfl, hc, hi, hl, hq⟩ := h
  have h0 : 0 ∈ states := hi.mem 0 (by simp)
  simp [t_numbered_rows, dictOf_get0 h0]
  intro p2 p3 p4
  refine while_at (α := (List Nat × List RowN) × Option Cell × Option Cell × Option Cell × Option Cell × Option Cell × Option Cell)
    (fun z => [some (.val (.dict (dictOf (fun s => rowD (sRow S s)) states))), some (.val (.dict (dictOf (fun s => intN (c s)) states))), some (.own p2 (.dict (numG intN 0 (z.1.1.map c)))), some (.own p3 (.list (z.1.1.map intN))), some (.own p4 (.list (z.1.2.map rowD))), z.2.1, z.2.2.1, z.2.2.2.1, z.2.2.2.2.1, z.2.2.2.2.2.1, z.2.2.2.2.2.2])
    (fun z => NumInv S states c z.1.1 z.1.2 ∧ ∃ n, numGo S c n z.1.1 z.1.2 = numGo S c (states.length + 1) [0] [] ∧ states.length < n + z.1.2.length)
    (fun z => states.length + 1 - z.1.2.length) (fun z => decide (z.1.2.length < z.1.1.length)) (x0 := (([0], []), none, none, none, none, none, none)) ⟨hi, states.length + 1, rfl, by simp⟩ ?_ ?_ ?_
  · rintro ⟨⟨f, ls⟩, x5, x6, x7, x8, x9, x10⟩ _ K hK
    simp at hK ⊢
    exact hK
  · rintro ⟨⟨f, ls⟩, x5, x6, x7, x8, x9, x10⟩ ⟨inv, n, e, ln⟩ ht N hN
    simp at e ln ht hN
    obtain ⟨s, hs⟩ : ∃ s, f[ls.length]? = some s := ⟨_, List.getElem?_eq_getElem ht⟩
    have ms := inv.mem s (List.mem_of_getElem? hs)
    have st := (inv.step hc hs).1
    have sh := st.short
    have fle := inv.short
    simp only at st sh fle inv
    have fin := fun x5 x6 x7 x8 x9 x10 => hN (numStep S c f s).1 (ls ++ [(numStep S c f s).2]) x5 x6 x7 x8 x9 x10 st (n - 1) (by
      rw [← e]
      cases n with
      | zero => omega
      | succ n => rw [numGo_some hs]; rfl) (by simp; omega) (by simp; omega)
    have g0 := hc s ms false
    have g1 := hc s ms true
    simp [hs, dictOf_get ms, rowD, sRow, mvD, dictOf_get g0, numK_get keyB_int, -List.mem_map]
    intro p5
    by_cases c0 : c (S.g s false) ∈ f.map c
    · simp [c0, dictOf_get g0, numK_get keyB_int, numG_len, mem_snoc,  dictOf_get g1, -List.mem_map]
      by_cases c1 : c (S.g s true) ∈ (f).map c
      · have z : numStep S c f s = (f, (S.w s false, ((f).map c).idxOf (c (S.g s false))), (S.w s true, ((f).map c).idxOf (c (S.g s true))), S.e s) := by
          unfold numStep
          simp only [if_pos c0, if_pos c1]
        rw [z] at fin sh
        simp only [List.length_append, List.length_singleton, List.length_map] at sh
        try simp only [List.map_append, List.map_cons, List.map_nil] at c1
        simp [c1, dictOf_get g1, numK_get keyB_int, numG_len, mem_snoc,  -List.mem_map, -List.mem_append, -List.append_assoc]
        repeat refine ⟨by omega, ?_⟩
        simpa [rowD, mvD, sRow, -List.append_assoc] using fin _ _ _ _ _ _
      · have z : numStep S c f s = (f ++ [S.g s true], (S.w s false, ((f).map c).idxOf (c (S.g s false))), (S.w s true, ((f ++ [S.g s true]).map c).idxOf (c (S.g s true))), S.e s) := by
          unfold numStep
          simp only [if_pos c0, if_neg c1]
        rw [z] at fin sh
        simp only [List.length_append, List.length_singleton, List.length_map] at sh
        try simp only [List.map_append, List.map_cons, List.map_nil] at c1
        have pt := numK_put (en := intN) keyB_int c1
        simp only [List.length_map, List.length_append, List.length_cons, List.length_nil] at pt
        simp [c1, pt, dictOf_get g1, numK_get keyB_int, numG_len, mem_snoc,  -List.mem_map, -List.mem_append, -List.append_assoc]
        repeat refine ⟨by omega, ?_⟩
        simpa [rowD, mvD, sRow, -List.append_assoc] using fin _ _ _ _ _ _
    · have pt0 := numK_put (en := intN) keyB_int c0
      simp only [List.length_map] at pt0
      simp [c0, pt0, dictOf_get g0, numK_get keyB_int, numG_len, mem_snoc,  dictOf_get g1, -List.mem_map, -List.mem_append, -List.append_assoc]
      repeat refine ⟨by omega, ?_⟩
      by_cases c1 : c (S.g s true) ∈ (f ++ [S.g s false]).map c
      · have z : numStep S c f s = (f ++ [S.g s false], (S.w s false, ((f ++ [S.g s false]).map c).idxOf (c (S.g s false))), (S.w s true, ((f ++ [S.g s false]).map c).idxOf (c (S.g s true))), S.e s) := by
          unfold numStep
          simp only [if_neg c0, if_pos c1]
        rw [z] at fin sh
        simp only [List.length_append, List.length_singleton, List.length_map] at sh
        try simp only [List.map_append, List.map_cons, List.map_nil] at c1
        simp [c1, pt0, dictOf_get g1, numK_get keyB_int, numG_len, mem_snoc,  -List.mem_map, -List.mem_append, -List.append_assoc]
        repeat refine ⟨by omega, ?_⟩
        simpa [rowD, mvD, sRow, -List.append_assoc] using fin _ _ _ _ _ _
      · have z : numStep S c f s = (f ++ [S.g s false] ++ [S.g s true], (S.w s false, ((f ++ [S.g s false]).map c).idxOf (c (S.g s false))), (S.w s true, ((f ++ [S.g s false] ++ [S.g s true]).map c).idxOf (c (S.g s true))), S.e s) := by
          unfold numStep
          simp only [if_neg c0, if_neg c1]
        rw [z] at fin sh
        simp only [List.length_append, List.length_singleton, List.length_map] at sh
        try simp only [List.map_append, List.map_cons, List.map_nil] at c1
        have pt := numK_put (en := intN) keyB_int c1
        rw [show ((List.map c f ++ [c (S.g s false)]).length : Int) = (f.length : Int) + 1 by simp] at pt
        simp [c1, pt0, pt, dictOf_get g1, numK_get keyB_int, numG_len, mem_snoc,  -List.mem_map, -List.mem_append, -List.append_assoc]
        repeat refine ⟨by omega, ?_⟩
        simpa [rowD, mvD, sRow, -List.append_assoc] using fin _ _ _ _ _ _
  · rintro ⟨⟨f, ls⟩, x5, x6, x7, x8, x9, x10⟩ ⟨inv, n, e, ln⟩ ht
    simp at e ln ht
    have sh := inv.short
    have le := inv.le
    simp only at sh le
    cases n with
    | zero => omega
    | succ n =>
      rw [numGo_none (List.getElem?_eq_none ht)] at e
      rw [← e] at hq
      simpa using hq
end DL
namespace DL
open PySem PySem.Spec PyProof.Rows L2
open Sy
theorem dictOf_congr {en en' : Nat → PyData} {xs : List Nat} (h : ∀ s ∈ xs, en s = en' s) : dictOf en xs = dictOf en' xs := by
  unfold dictOf
  exact List.map_congr_left fun s hs => by rw [h s hs]
theorem nodesL_map {α : Type} {f : α → PyData} (h : ∀ x, nodes (f x) = []) : ∀ xs : List α, nodesL (xs.map f) = []
  | [] => by simp [nodesL]
  | x :: xs => by rw [List.map_cons, nodesL, h x, nodesL_map h xs]; rfl
theorem nodesK_of {en : Nat → PyData} (h : ∀ x, nodes (en x) = []) : ∀ xs : List Nat, nodesK (dictOf en xs) = []
  | [] => by simp [dictOf, nodesK]
  | x :: xs => by
    have := nodesK_of h xs
    unfold dictOf at this ⊢
    rw [List.map_cons, nodesK, h x, this]
    rfl
theorem nodes_W (w : List Bool) : nodes (Wd w) = [] := by simp [nodes]
theorem nodes_I (i : Int) : nodes (.int i) = [] := by simp [nodes]
theorem nodes_row (r : Row) : nodes (rowD r) = [] := by simp [rowD, mvD, nodes, nodesL]
theorem dictOf_ne {en en' : Nat → PyData} {xs : List Nat} (h0 : 0 < xs.length) (h : ∀ s, en s ≠ en' s) : dictOf en xs ≠ dictOf en' xs := by
  cases xs with
  | nil => cases h0
  | cons x xs =>
    intro e
    unfold dictOf at e
    rw [List.map_cons, List.map_cons] at e
    simp at e
    exact h x e.1
theorem sure_len {rows : List Row} (hw : wordsIn rows) (s : Nat) : (lfSure rows s).length ≤ 1000000 := Nat.le_trans (pre_go (syOf rows) (lfStates rows) _ _ s).length_le (hw.e s)
def F_least_form : DF := fun ds q => ∃ (f : List Bool) (rows : List Row), ds = [Wd f, .list (rows.map rowD)] ∧ rowsIn rows ∧ wordsIn rows ∧ f.length ≤ 1000000 ∧ q (macD (lfM f rows).1 (lfM f rows).2) .none
theorem pl_least_form : PL_least_form F_least_form F_states_come_to F_sure_words F_numbered_rows F_class_numbers := by
  intro ds q a0 _ h
  obtain ⟨f, rows, rfl, hr, hw, hf, hq⟩ := h
  obtain ⟨xn, xb, xc, _, x0⟩ := lf_reach hr
  have xl : (lfStates rows).length ≤ 1000000 := by
    have := nodup_len xn (m := List.range rows.length) fun x hx => List.mem_range.mpr (xb x hx)
    have := hw.1
    simp at *
    omega
  have xp : 0 < (lfStates rows).length := List.length_pos_of_mem x0
  simp [t_least_form]
  refine ⟨rows, rfl, hr, hw.1, ?_⟩
  simp
  refine ⟨rows, rfl, hr, hw, ?_⟩
  simp [-e_forGo1]
  intro p4
  refine for_at (α := Nat) (β := List Nat × (Option Cell × Option Cell × Option Cell × Option Cell) × Option PyData × Option PyData) (fun s => .int (s : Nat))
    (fun z => [some (.val (Wd f)), some (.val (.list (rows.map rowD))), some (.val (.list ((lfStates rows).map fun s => .int (s : Nat)))), some (.val (.dict (dictOf (fun s => Wd (lfSure rows s)) (lfStates rows)))), some (.own p4 (.dict (dictOf (fun s => rowD (sRow (lfSy rows) s)) z.1))), z.2.1.1, z.2.1.2.1, z.2.1.2.2.1, z.2.1.2.2.2, z.2.2.1.map .val, z.2.2.2.map .val])
    (fun r z => z.1 ++ r = lfStates rows) ?_ ?_ (lfStates rows) ([], (none, none, none, none), none, none) rfl
  · rintro ⟨xs, ⟨x5, x6, x7, x8⟩, x9, x10⟩ e
    simp only [List.append_nil] at e
    subst e
    have ls := sure_len hw 0
    simp [dictOf_get0 x0]
    refine ⟨by omega, lfSy rows, lfStates rows, rfl, xc, xn, xp, xl, fun l hl hn => ?_, ?_⟩
    · simp [nodesL, nodes, nodesK_of (fun x => nodes_row (sRow (lfSy rows) x)), nodesL_map (fun x : Nat => nodes_I x)] at hl hn
      rw [nodesK_of (fun x => nodes_I _)] at hn
      simp at hn
      subst hn
      rcases hl with hl | hl
      · exact dictOf_ne xp (fun s => by simp [rowD]) (PyData.dict.inj hl)
      · cases hl
    simp
    refine ⟨lfSy rows, lfStates rows, lfCls rows, rfl, xc, lf_inv0 hr, xl, fun l hl hn => ?_, ?_⟩
    · simp [nodesL, nodes, nodesK_of (fun x => nodes_row (sRow (lfSy rows) x)), nodesL_map nodes_row] at hl hn
      rw [nodesK_of (fun x => nodes_I _)] at hl
      subst hn
      simp at hl
    simp
    exact hq
  · rintro s r ⟨xs, ⟨x5, x6, x7, x8⟩, x9, x10⟩ e N hN
    simp only at e
    have hs : s ∈ lfStates rows := by rw [← e]; simp
    obtain ⟨rw_, hrow⟩ : ∃ r, rows[s]? = some r := ⟨_, List.getElem?_eq_getElem (xb s hs)⟩
    have e2 := row_two rw_
    have len := sure_len hw
    have wl := hw.2 rw_ (List.mem_of_getElem? hrow)
    have w0 : (lfSy rows).w s false = (rw_.1.1 ++ lfSure rows rw_.1.2).drop (lfSure rows s).length := by simp [lfSy, onw, syOf, hrow]
    have w1 : (lfSy rows).w s true = (rw_.2.1.1 ++ lfSure rows rw_.2.1.2).drop (lfSure rows s).length := by simp [lfSy, onw, syOf, hrow]
    have we : (lfSy rows).e s = rw_.2.2.drop (lfSure rows s).length := by simp [lfSy, onw, syOf, hrow]
    have g0 : (syOf rows).g s false = rw_.1.2 := by simp [syOf, hrow]
    have g1 : (syOf rows).g s true = rw_.2.1.2 := by simp [syOf, hrow]
    have k0 : (lfSy rows).g s false = rw_.1.2 := g0
    have k1 : (lfSy rows).g s true = rw_.2.1.2 := g1
    have m0 : rw_.1.2 ∈ lfStates rows := by rw [← g0]; exact xc s hs false
    have m1 : rw_.2.1.2 ∈ lfStates rows := by rw [← g1]; exact xc s hs true
    have ns : s ∉ xs := fun z => by
      rw [← e] at xn
      exact (List.nodup_append.mp xn).2.2 s z s (by simp) rfl
    have sl : xs.length < (lfStates rows).length := by rw [← e]; simp
    simp [dictOf_get hs, hrow, e2, -e_lcP1]
    refine ⟨by have := len s; omega, ?_⟩
    refine lc_at mvD (fun m : Move => mvD ((m.1 ++ lfSure rows m.2).drop (lfSure rows s).length, m.2)) [rw_.1, rw_.2.1] (by cases x9 <;> cases x10 <;> rfl) (fun m hm Q1 Q2 hQ => ?_) (by simp) ?_
    · have mm : m.2 ∈ lfStates rows := by
        simp at hm
        rcases hm with rfl | rfl
        · exact m0
        · exact m1
      have ml : m.1.length ≤ 1000000 := by
        simp at hm
        rcases hm with rfl | rfl
        · exact wl.1
        · exact wl.2.1
      simp [mvD, dictOf_get mm]
      refine ⟨by have := len m.2; omega, ?_⟩
      exact hQ _ (by cases x9 <;> cases x10 <;> rfl)
    simp [hrow, e2]
    refine ⟨by omega, by omega, ?_⟩
    have rr : rowD (sRow (lfSy rows) s) = .tuple [mvD ((rw_.1.1 ++ lfSure rows rw_.1.2).drop (lfSure rows s).length, rw_.1.2), mvD ((rw_.2.1.1 ++ lfSure rows rw_.2.1.2).drop (lfSure rows s).length, rw_.2.1.2), S (enc (rw_.2.2.drop (lfSure rows s).length))] := by
      unfold sRow
      rw [row_two, w0, w1, we, k0, k1]
    rw [dictOf_add ns rr]
    exact hN (xs ++ [s], (_, _, _, _), x9, x10) (by rw [← e, List.append_assoc]; rfl)
theorem macOk_of {f : List Bool} {rows : List Row} (hr : rowsIn rows) (hw : wordsIn rows) (hf : f.length ≤ 1000000) : macOk f rows := by
  refine ⟨by omega, hr.1, fun r hr' => ?_⟩
  have a := hr.2 r hr'
  have b := hw.2 r hr'
  refine ⟨⟨?_, ?_⟩, ⟨?_, ?_⟩, ?_⟩ <;> omega
def F_least : DF := fun ds q => ∃ (f : List Bool) (rows : List Row), ds = [macD f rows] ∧ rowsIn rows ∧ wordsIn rows ∧ f.length ≤ 1000000 ∧ q (macD (lfM f rows).1 (lfM f rows).2) .none
theorem pl_least : PL_least F_least F_check_machine F_least_form := by
  intro ds q a0 _ h
  obtain ⟨f, rows, rfl, hr, hw, hf, hq⟩ := h
  simp [t_least]
  refine ⟨f, rows, rfl, macOk_of hr hw hf, ?_⟩
  have mm : macD f rows = .tuple [Wd f, .list (rows.map rowD)] := rfl
  simp [mm]
  refine ⟨f, rows, rfl, hr, hw, hf, ?_⟩
  exact hq
end DL
namespace DL
open PySem PySem.Spec PyProof.Rows L2
def restA (a b : List Bool) : List Bool := a.drop (lcp a b)
def restB (a b : List Bool) : List Bool := b.drop (lcp a b)
def F_rests : DF := fun ds q => ∃ a b : List Bool, ds = [.tuple [Wd a, Wd b]] ∧ a.length ≤ 16777216 ∧ b.length ≤ 16777216 ∧ q (.tuple [Wd (restA a b), Wd (restB a b)]) .none
theorem pl_rests : PL_rests F_rests := by
  intro ds q _ _ h
  obtain ⟨a, b, rfl, ha, hb, hq⟩ := h
  have la := (lcp_le a b).1
  have lb := (lcp_le a b).2
  refine ⟨rfl, rfl, while_of (fun m ρ => ∃ k : Nat, k ≤ lcp a b ∧ m = a.length - k ∧ ρ = [some (.val (.tuple [Wd a, Wd b])), some (.val (.int k)), some (.val (Wd a)), some (.val (Wd b))]) ⟨a.length, 0, Nat.zero_le _, rfl, rfl⟩ ?_⟩
  rintro m ρ ⟨k, hk, rfl, rfl⟩
  refine ⟨decide (k < lcp a b), fun K hK => ?_, fun hc N hN => ?_, fun hc => ?_⟩
  · refine ⟨by show (enc a).length ≤ _; rw [enc_len]; exact ha, by show (enc b).length ≤ _; rw [enc_len]; exact hb, trivial, trivial, ?_⟩
    have e1 : decide ((k : Int) < (if ((L (mk (enc b))).length : Int) < ((L (mk (enc a))).length : Int) then ((L (mk (enc b))).length : Int) else ((L (mk (enc a))).length : Int))) = decide (k < a.length ∧ k < b.length) := by
      rw [L_mk, L_mk, enc_len, enc_len]
      refine decide_eq_decide.mpr ?_
      split <;> omega
    show (if decide ((k : Int) < (if ((L (mk (enc b))).length : Int) < ((L (mk (enc a))).length : Int) then ((L (mk (enc b))).length : Int) else ((L (mk (enc a))).length : Int))) = true then _ else _)
    rw [e1]
    by_cases lt : k < a.length ∧ k < b.length
    · rw [if_pos (decide_eq_true lt)]
      obtain ⟨x, hx⟩ : ∃ x, a[k]? = some x := ⟨_, List.getElem?_eq_getElem lt.1⟩
      obtain ⟨y, hy⟩ : ∃ y, b[k]? = some y := ⟨_, List.getElem?_eq_getElem lt.2⟩
      refine ⟨by show (enc a).length ≤ _; rw [enc_len]; exact ha, sg x, at_enc hx, by show (enc b).length ≤ _; rw [enc_len]; exact hb, sg y, at_enc hy, shaped_sg x, shaped_sg y, ?_⟩
      have e2 : id (PyData.eqv (S [sg x]) (S [sg y])) = decide (k < lcp a b) := by
        show PyData.eqv (Wd [x]) (Wd [y]) = _
        rw [eqv_Wd]
        refine decide_eq_decide.mpr ⟨fun h => ?_, fun h => ?_⟩
        · simp only [List.cons.injEq, and_true] at h
          refine Nat.lt_of_le_of_ne hk fun e => ?_
          rw [e] at hx hy
          exact lcp_end a b hx hy h
        · obtain ⟨c, h1, h2⟩ := lcp_at a b k h
          rw [hx] at h1
          rw [hy] at h2
          cases h1
          cases h2
          rfl
      rw [e2]
      exact hK
    · rw [if_neg (by simpa using lt)]
      have e3 : decide (k < lcp a b) = false := decide_eq_false fun h => lt ⟨by omega, by omega⟩
      rw [e3] at hK
      exact hK
  · have lt : k < lcp a b := of_decide_eq_true hc
    exact hN _ (a.length - (k + 1)) (by omega) ⟨k + 1, lt, rfl, rfl⟩
  · have e : k = lcp a b := by have := of_decide_eq_false hc; omega
    subst e
    refine ⟨by show (enc a).length ≤ _; rw [enc_len]; exact ha, by show (enc b).length ≤ _; rw [enc_len]; exact hb, Nat.le_of_ble_eq_true rfl, ?_⟩
    have e1 : S (cutD (L (mk (enc a))) (some ((lcp a b : Nat) : Int)) none) = Wd (restA a b) := by
      rw [L_mk, cut_enc, cut_from]; rfl
    have e2 : S (cutD (L (mk (enc b))) (some ((lcp a b : Nat) : Int)) none) = Wd (restB a b) := by
      rw [L_mk, cut_enc, cut_from]; rfl
    show q (.tuple [S (cutD (L (mk (enc a))) (some ((lcp a b : Nat) : Int)) none), S (cutD (L (mk (enc b))) (some ((lcp a b : Nat) : Int)) none)]) .none
    rw [e1, e2]
    exact hq
end DL
namespace DL
open PySem PySem.Spec PyProof.Rows L2
/-! ### all roads in their order -/
def nth : Nat → List Bool
  | 0 => []
  | i + 1 => nth (i / 2) ++ [decide (i % 2 = 1)]
decreasing_by omega
theorem nth0 : nth 0 = [] := by rw [nth]
theorem nth1 (i : Nat) : nth (2 * i + 1) = nth i ++ [false] := by
  rw [nth, show 2 * i / 2 = i by omega, decide_eq_false (show ¬ 2 * i % 2 = 1 by omega)]
theorem nth2 (i : Nat) : nth (2 * i + 2) = nth i ++ [true] := by
  rw [nth, show (2 * i + 1) / 2 = i by omega, decide_eq_true (show (2 * i + 1) % 2 = 1 by omega)]
theorem nth_len : ∀ (n i : Nat), 2 ^ n ≤ i + 1 → i + 1 < 2 ^ (n + 1) → (nth i).length = n
  | 0, i, h1, h2 => by
    obtain rfl : i = 0 := by omega
    rw [nth0]; rfl
  | n + 1, i, h1, h2 => by
    have e1 : 2 ^ (n + 1) = 2 * 2 ^ n := by rw [Nat.pow_succ]; omega
    have e2 : 2 ^ (n + 1 + 1) = 2 * 2 ^ (n + 1) := by rw [Nat.pow_succ]; omega
    have hp : 0 < 2 ^ n := Nat.pow_pos (by decide)
    obtain ⟨j, hj⟩ : ∃ j, i = 2 * j + 1 ∨ i = 2 * j + 2 := ⟨(i - 1) / 2, by omega⟩
    have ih := nth_len n j (by omega) (by omega)
    rcases hj with rfl | rfl
    · rw [nth1, List.length_append, ih]; rfl
    · rw [nth2, List.length_append, ih]; rfl
theorem nth_short (n i : Nat) (h : i + 1 < 2 ^ n) : (nth i).length < n := by
  induction n generalizing i with
  | zero => simp at h
  | succ n ih =>
    by_cases lt : i + 1 < 2 ^ n
    · exact Nat.lt_succ_of_lt (ih i lt)
    · rw [nth_len n i (by omega) h]; omega
def roadsTo (n : Nat) : List (List Bool) := (List.range (2 ^ (n + 1) - 1)).map nth
def F_roads_to : DF := fun ds q => ∃ n : Nat, ds = [.int n] ∧ n ≤ 20 ∧ q (.list ((roadsTo n).map Wd)) .none
theorem pl_roads_to : PL_roads_to F_roads_to := by
  intro ds q _ _ h
  obtain ⟨n, rfl, hn, hq⟩ := h
  have hp : 0 < 2 ^ n := Nat.pow_pos (by decide)
  have h20 : 2 ^ n ≤ 2 ^ 20 := Nat.pow_le_pow_right (by decide) hn
  refine ⟨Nat.le_of_ble_eq_true rfl, fun p => ?_⟩
  refine while_of (fun m ρ => ∃ at_ : Nat, at_ + 1 ≤ 2 ^ n ∧ m = 2 ^ n - at_ ∧ ρ = [some (.val (.int n)), some (.own p (.list ((List.range (2 * at_ + 1)).map fun i => Wd (nth i)))), some (.val (.int at_))]) ⟨2 ^ n, 0, by omega, rfl, ?_⟩ ?_
  · show ([some (.val (.int n)), some (.own p (.list [Wd []])), some (.val (.int 0))] : DEnv) = [some (.val (.int n)), some (.own p (.list [Wd (nth 0)])), some (.val (.int 0))]
    rw [nth0]
  · rintro m ρ ⟨k, hk, rfl, rfl⟩
    have hat : atI ((List.range (2 * k + 1)).map fun i => Wd (nth i)) (k : Int) = some (Wd (nth k)) := atI_nat (by
      rw [List.getElem?_map, List.getElem?_range (by omega)]; rfl)
    have hl : (nth k).length ≤ n := by
      by_cases e : k + 1 = 2 ^ n
      · rw [nth_len n k (by omega) (by rw [Nat.pow_succ]; omega)]; exact Nat.le_refl _
      · exact Nat.le_of_lt (nth_short n k (by omega))
    refine ⟨decide (k + 1 < 2 ^ n), fun K hK => ?_, fun hc N hN => ?_, fun hc => ?_⟩
    · refine ⟨_, hat, ?_, trivial, ?_⟩
      · show (enc _).length ≤ _
        rw [enc_len]; omega
      · show (match PyData.bool (decide (((enc (nth k)).length : Int) < n)) with | .bool b => K b _ | _ => False)
        have e : decide (((enc (nth k)).length : Int) < n) = decide (k + 1 < 2 ^ n) := by
          rw [enc_len]
          refine decide_eq_decide.mpr ⟨fun h => ?_, fun h => ?_⟩
          · refine Classical.byContradiction fun z => ?_
            have := nth_len n k (by omega) (by rw [Nat.pow_succ]; omega)
            omega
          · have := nth_short n k h
            omega
        rw [e]
        exact hK
    · have lt : k + 1 < 2 ^ n := of_decide_eq_true hc
      refine ⟨_, hat, ?_, _, hat, ?_, ?_, ?_, ?_⟩
      · show (enc _).length + 1 ≤ _
        rw [enc_len]; omega
      · show (enc _).length + 1 ≤ _
        rw [enc_len]; omega
      · exact Nat.le_of_ble_eq_true rfl
      · rw [List.length_map, List.length_range]
        show 2 * k + 1 + 2 ≤ _
        omega
      · refine hN _ (2 ^ n - (k + 1)) (by omega) ⟨k + 1, by omega, rfl, ?_⟩
        have e : (List.range (2 * (k + 1) + 1)).map (fun i => Wd (nth i)) = ((List.range (2 * k + 1)).map fun i => Wd (nth i)) ++ [S (L (mk (enc (nth k))) ++ L (mk [76])), S (L (mk (enc (nth k))) ++ L (mk [82]))] := by
          rw [show 2 * (k + 1) + 1 = 2 * k + 1 + 1 + 1 by omega, List.range_succ, List.range_succ, List.map_append, List.map_append, List.append_assoc]
          congr 1
          show [Wd (nth (2 * k + 1)), Wd (nth (2 * k + 2))] = _
          rw [nth1, nth2]
          unfold Wd
          rw [enc_app, enc_app]
          rfl
        rw [e]
        rfl
    · have e : k + 1 = 2 ^ n := by have := of_decide_eq_false hc; omega
      have e2 : 2 * k + 1 = 2 ^ (n + 1) - 1 := by rw [Nat.pow_succ]; omega
      have e3 : ((List.range (2 * k + 1)).map fun i => Wd (nth i)) = (roadsTo n).map Wd := by
        rw [e2, roadsTo, List.map_map]; rfl
      rw [e3]
      exact hq
theorem roads_len {n : Nat} {w : List Bool} (h : w ∈ roadsTo n) : w.length ≤ n := by
  unfold roadsTo at h
  obtain ⟨i, hi, rfl⟩ := List.mem_map.mp h
  have hi := List.mem_range.mp hi
  have := nth_short (n + 1) i (by have : 0 < 2 ^ (n + 1) := Nat.pow_pos (by decide); omega)
  omega
theorem roads_many (n : Nat) : (roadsTo n).length = 2 ^ (n + 1) - 1 := by simp [roadsTo]
end DL
namespace DL
open PySem PySem.Spec PyProof.Rows L2
def mvOf (r : Row) (t : Bool) : Move := if t then r.2.1 else r.1
def F_move_of : DF := fun ds q => ∃ (rows : List Row) (s : Nat) (r : Row) (t : Bool), ds = [.list (rows.map rowD), .int s, S [sg t]] ∧ rows[s]? = some r ∧ q (mvD (mvOf r t)) .none
theorem at_row {rows : List Row} {s : Nat} {r : Row} (h : rows[s]? = some r) : atI (rows.map rowD) (s : Int) = some (rowD r) := atI_nat (by rw [List.getElem?_map, h]; rfl)
theorem sg_eq (t : Bool) : PyData.eqv (S [sg t]) (S [76]) = !t := by
  cases t <;> decide
theorem pl_move_of : PL_move_of F_move_of := by
  intro ds q a _ h
  obtain ⟨rows, s, r, t, rfl, hr, hq⟩ := h
  refine ⟨_, at_row hr, ⟨shaped_sg t, shaped_sg false, ?_⟩⟩
  rw [sg_eq]
  cases t with
  | true => exact ⟨mvD r.2.1, rfl, hq⟩
  | false => exact ⟨mvD r.1, rfl, hq⟩
/-- what is written along a road, and where one ends -/
def walk (rows : List Row) : Nat → List Bool → List Bool × Nat
  | s, [] => ([], s)
  | s, t :: w => match rows[s]? with
    | some r => let m := mvOf r t; let x := walk rows m.2 w; (m.1 ++ x.1, x.2)
    | none => ([], s)
def walkL (rows : List Row) : Nat → List Bool → List (List Bool)
  | _, [] => []
  | s, t :: w => match rows[s]? with
    | some r => (mvOf r t).1 :: walkL rows (mvOf r t).2 w
    | none => []
theorem walk_flat (rows : List Row) : ∀ (w : List Bool) (s : Nat), (walkL rows s w).flatten = (walk rows s w).1
  | [], s => rfl
  | t :: w, s => by
    unfold walkL walk
    cases h : rows[s]? with
    | none => rfl
    | some r =>
      simp only [List.flatten_cons, walk_flat rows w]
theorem mv_ok {rows : List Row} {n s : Nat} {r : Row} (h : ∀ x ∈ rows, rowOk n x) (hr : rows[s]? = some r) (t : Bool) : mvOk n (mvOf r t) := by
  obtain ⟨h1, h2, _⟩ := h r (List.mem_of_getElem? hr)
  cases t
  · exact h1
  · exact h2
theorem walk_lt {rows : List Row} (h : ∀ x ∈ rows, rowOk rows.length x) : ∀ (w : List Bool) (s : Nat), s < rows.length → (walk rows s w).2 < rows.length
  | [], s, hs => hs
  | t :: w, s, hs => by
    unfold walk
    obtain ⟨r, hr⟩ : ∃ r, rows[s]? = some r := ⟨_, List.getElem?_eq_getElem hs⟩
    rw [hr]
    exact walk_lt h w _ (mv_ok h hr t).2
def F_walked_on : DF := fun ds q => ∃ (rows : List Row) (s : Nat) (w : List Bool), ds = [.list (rows.map rowD), .int s, Wd w] ∧ (∀ x ∈ rows, rowOk rows.length x) ∧ s < rows.length ∧ w.length ≤ 16777216 ∧ (walk rows s w).1.length ≤ 16777216 ∧
  q (.tuple [Wd (walk rows s w).1, .int (walk rows s w).2]) .none
theorem strs_of : ∀ (ws : List (List Bool)), strsOf (ws.map Wd) = some (ws.map fun w => mk (enc w))
  | [] => rfl
  | w :: ws => by simp only [List.map_cons, strsOf, strs_of ws, Option.map_some]
theorem sum_len : ∀ (ws : List (List Bool)), ((ws.map fun w => mk (enc w)).map (·.length)).sum = ws.flatten.length
  | [] => rfl
  | w :: ws => by
    simp only [List.map_cons, List.sum_cons, sum_len ws, List.flatten_cons, List.length_append]
    congr 1
    rw [← L_len, L_mk, enc_len]
theorem pl_walked_on : PL_walked_on F_walked_on F_move_of := by
  intro ds q a _ h
  obtain ⟨rows, s, w, rfl, ok, hs, hw, ht, hq⟩ := h
  refine ⟨Nat.zero_le _, fun p => ⟨_, rfl, ?_⟩⟩
  refine forGo_inv (fun r ρ => ∃ (w1 w2 : List Bool) (s2 : Nat) (ds : List (List Bool)) (x4 x5 : Option Cell), w2.length ≤ w.length ∧ ds.length + w2.length = w.length ∧ r = w2.map (fun b => S [sg b]) ∧ s2 < rows.length ∧ ds ++ walkL rows s2 w2 = walkL rows s w ∧ (walk rows s2 w2).2 = (walk rows s w).2 ∧
    ρ = [some (.val (.list (rows.map rowD))), some (.val (.int s2)), some (.val (Wd w)), some (.own p (.list (ds.map Wd))), x4, x5]) (fun ρ hI => ?_) (fun d r ρ N hN hI => ?_) _ _ ?_
  · obtain ⟨w1, w2, s2, ds, x4, x5, l1, l2, e, l3, e2, e3, rfl⟩ := hI
    have w0 : w2 = [] := by
      cases w2 with
      | nil => rfl
      | cons b w2 => cases e
    subst w0
    simp only [walkL, List.append_nil] at e2
    refine ⟨_, strs_of _, ?_, ?_⟩
    · rw [sum_len, e2, walk_flat]
      show _ + _ * 0 ≤ _
      omega
    · refine ⟨Nat.le_of_ble_eq_true rfl, ?_⟩
      rw [join_none, e2, walk_flat, show s2 = (walk rows s w).2 from e3]
      exact hq
  · obtain ⟨w1, w2, s2, ds, x4, x5, l1, l2, e, l3, e2, e3, rfl⟩ := hI
    cases w2 with
    | nil => cases e
    | cons b w2 =>
      cases e
      obtain ⟨r, hr⟩ : ∃ r, rows[s2]? = some r := ⟨_, List.getElem?_eq_getElem l3⟩
      refine ⟨rfl, rows, s2, r, b, rfl, hr, .inr rfl, rfl, rfl, ?_, ?_⟩
      · rw [List.length_map]
        have := l2
        rw [List.length_cons] at this
        omega
      · refine hN _ ⟨w1, w2, (mvOf r b).2, ds ++ [(mvOf r b).1], some (.val (S [sg b])), some (.val (Wd (mvOf r b).1)), ?_, ?_, rfl, (mv_ok ok hr b).2, ?_, ?_, ?_⟩
        · rw [List.length_cons] at l1; omega
        · rw [List.length_cons] at l2; rw [List.length_append, List.length_singleton]; omega
        · rw [← e2, List.append_assoc]
          congr 1
          conv => rhs; unfold walkL
          rw [hr]
          rfl
        · rw [← e3]
          conv => rhs; unfold walk
          rw [hr]
        · rw [List.map_append]
          rfl
  · refine ⟨[], w, s, [], none, none, Nat.le_refl _, Nat.zero_add _, ?_, hs, rfl, rfl, rfl⟩
    show (L (mk (enc w))).map _ = _
    rw [L_mk, enc, List.map_map]
    rfl
end DL
namespace DL
open PySem PySem.Spec PyProof.Rows L2
/-- what a machine writes for a road -/
def runM (f : List Bool) (rows : List Row) (w : List Bool) : List Bool := f ++ (walk rows 0 w).1 ++ ((rows[(walk rows 0 w).2]?).map (·.2.2)).getD []
def F_run : DF := fun ds q => ∃ (f : List Bool) (rows : List Row) (w : List Bool), ds = [macD f rows, Wd w] ∧ macOk f rows ∧ w.length ≤ 16777216 ∧ (runM f rows w).length ≤ 16777216 ∧ q (Wd (runM f rows w)) .none
theorem pl_run : PL_run F_run F_check_machine F_check_road F_walked_on := by
  intro ds q a _ h
  obtain ⟨f, rows, w, rfl, ok, hw, hl, hq⟩ := h
  have hs := walk_lt ok.2.2 w 0 ok.2.1
  obtain ⟨r, hr⟩ : ∃ r, rows[(walk rows 0 w).2]? = some r := ⟨_, List.getElem?_eq_getElem hs⟩
  have e : runM f rows w = f ++ (walk rows 0 w).1 ++ r.2.2 := by unfold runM; rw [hr]; rfl
  rw [e] at hl hq
  simp only [List.length_append] at hl
  refine ⟨rfl, f, rows, rfl, ok, .inl rfl, rfl, w, rfl, hw, .inl rfl, rfl, rfl, rfl, rows, 0, w, rfl, ok.2.2, ok.2.1, hw, by omega, .inl rfl, rfl, rfl, ?_⟩
  refine ⟨?_, _, at_row hr, Wd r.2.2, rfl, ?_, ?_⟩
  · show (enc _).length + (enc _).length ≤ _
    rw [enc_len, enc_len]; omega
  · show (enc _ ++ enc _).length + (enc _).length ≤ _
    rw [List.length_append, enc_len, enc_len, enc_len]; omega
  · show q (S (enc _ ++ enc _ ++ enc _)) .none
    rw [← enc_app, ← enc_app]
    exact hq
end DL
namespace DL
open PySem PySem.Spec PyProof.Rows L2
open Sy
@[simp ↓] theorem e_fDZip {t : DTA} {ρ : DEnv} {q : PyData → DEnv → Prop} : fDZip t ρ q = (t ρ fun os ρ1 => tkAll os ρ1 fun ds ρ2 => match ds with
  | [.list xs, .list ys] => keysD xs = true ∧ xs.length ≤ 16777216 ∧ q (.dict (dMerge [] (xs.zip ys))) ρ2
  | _ => False) := id rfl
/-! ### a table of words -/
def tabW (T : List Bool → List Bool) (keys : List (List Bool)) : List (PyData × PyData) := keys.map fun v => (Wd v, Wd (T v))
@[simp] theorem kDict_W (T : List Bool → List Bool) (keys : List (List Bool)) : kDict (tabW T keys) = true := by cases keys <;> exact id rfl
theorem tabW_get {T : List Bool → List Bool} {keys : List (List Bool)} {v : List Bool} (h : v ∈ keys) : dGetD (tabW T keys) (Wd v) = some (Wd (T v)) := by
  unfold dGetD dLook tabW
  induction keys with
  | nil => cases h
  | cons x xs ih =>
    rw [List.map_cons]
    by_cases e : x = v
    · subst e
      rw [List.find?_cons_of_pos (by show keyB (Wd x) (Wd x) = true; rw [keyB_W]; simp)]
      rfl
    · rw [List.find?_cons_of_neg (by show ¬ keyB (Wd x) (Wd v) = true; rw [keyB_W]; simpa using e)]
      exact ih ((List.mem_cons.mp h).resolve_left fun q => e q.symm)
/-! the text of a mark -/
def pieceC (p : List Bool × List Bool) : List Nat := enc p.1 ++ [45] ++ enc p.2
def markC (ps : List (List Bool × List Bool)) : List Nat := joinN [32] (ps.map pieceC)
theorem enc_cut {x : Nat} (hx : x ≠ 76 ∧ x ≠ 82) : ∀ {a b : List Bool} {r s : List Nat}, enc a ++ x :: r = enc b ++ x :: s → a = b ∧ r = s
  | [], [], r, s, h => by simpa [enc] using h
  | [], c :: b, r, s, h => by
    have h2 := congrArg List.head? h
    cases c <;> simp [enc, sg] at h2 <;> omega
  | c :: a, [], r, s, h => by
    have h2 := congrArg List.head? h
    cases c <;> simp [enc, sg] at h2 <;> omega
  | c :: a, d :: b, r, s, h => by
    have h2 : sg c :: (enc a ++ x :: r) = sg d :: (enc b ++ x :: s) := h
    obtain ⟨e, t⟩ := List.cons.inj h2
    obtain ⟨i, j⟩ := enc_cut hx t
    have : c = d := by cases c <;> cases d <;> simp [sg] at e <;> rfl
    exact ⟨by rw [this, i], j⟩
theorem enc_no {x : Nat} (hx : x ≠ 76 ∧ x ≠ 82) {a b : List Bool} {r : List Nat} (h : enc a = enc b ++ x :: r) : False := by
  have : x ∈ enc a := by rw [h]; simp
  unfold enc at this
  obtain ⟨c, _, e⟩ := List.mem_map.mp this
  cases c <;> simp [sg] at e <;> omega
theorem markC_inj : ∀ {ps qs : List (List Bool × List Bool)}, markC ps = markC qs → ps = qs
  | [], [], _ => rfl
  | [], q :: qs, h => by
    have : markC (q :: qs) ≠ [] := by
      unfold markC
      cases qs <;> simp [joinN, pieceC]
    exact absurd h.symm this
  | p :: ps, [], h => by
    have : markC (p :: ps) ≠ [] := by
      unfold markC
      cases ps <;> simp [joinN, pieceC]
    exact absurd h this
  | p :: ps, q :: qs, h => by
    have one : ∀ (p : List Bool × List Bool) (ps : List (List Bool × List Bool)), ∃ z, markC (p :: ps) = enc p.1 ++ 45 :: z ∧ ((ps = [] ∧ z = enc p.2) ∨ (ps ≠ [] ∧ z = enc p.2 ++ 32 :: markC ps)) := fun p ps => by
      cases ps with
      | nil => exact ⟨enc p.2, by simp [markC, joinN, pieceC], .inl ⟨rfl, rfl⟩⟩
      | cons r ps => exact ⟨enc p.2 ++ 32 :: markC (r :: ps), by simp [markC, joinN, pieceC], .inr ⟨by simp, rfl⟩⟩
    obtain ⟨y, ey, hy⟩ := one p ps
    obtain ⟨z, ez, hz⟩ := one q qs
    rw [ey, ez] at h
    obtain ⟨e1, e2⟩ := enc_cut (by decide) h
    rcases hy with ⟨rfl, hy⟩ | ⟨np, hy⟩ <;> rcases hz with ⟨rfl, hz⟩ | ⟨nq, hz⟩ <;> rw [hy, hz] at e2
    · rw [Prod.ext e1 (enc_inj e2)]
    · exact (enc_no (by decide) e2).elim
    · exact (enc_no (by decide) e2.symm).elim
    · obtain ⟨e3, e4⟩ := enc_cut (by decide) e2
      rw [Prod.ext e1 e3, markC_inj e4]
abbrev markD (ps : List (List Bool × List Bool)) : PyData := S (markC ps)
theorem keyB_mark (a b : List (List Bool × List Bool)) : keyB (markD a) (markD b) = decide (a = b) := by
  show decide (mk (markC a) = mk (markC b)) = _
  exact decide_eq_decide.mpr ⟨fun h => markC_inj (mk_inj h), fun h => by rw [h]⟩
end DL
namespace DL
open PySem PySem.Spec PyProof.Rows L2
open Sy
def F_mark_of : DF := fun ds q => ∃ (T : List Bool → List Bool) (keys : List (List Bool)) (v : List Bool) (later : List (List Bool)), ds = [.dict (tabW T keys), Wd v, .list (later.map Wd)] ∧ later.length ≤ 1000 ∧ v ∈ keys ∧ (∀ r ∈ later, v ++ r ∈ keys) ∧ (∀ v ∈ keys, v.length ≤ 1000 ∧ (T v).length ≤ 1000) ∧ q (markD (markT T later v)) .none
theorem restP_len (a b : List Bool) : (restP a b).1.length ≤ a.length ∧ (restP a b).2.length ≤ b.length := by
  unfold restP
  simp
theorem strs_S : ∀ (ps : List (List Nat)), strsOf (ps.map fun p => S p) = some (ps.map mk)
  | [] => rfl
  | p :: ps => by simp only [List.map_cons, strsOf, strs_S ps, Option.map_some]
theorem sum_S {ps : List (List Nat)} {n : Nat} (h : ∀ p ∈ ps, p.length ≤ n) : ((ps.map mk).map (·.length)).sum ≤ ps.length * n := by
  induction ps with
  | nil => simp
  | cons p ps ih =>
    have := ih fun x hx => h x (List.mem_cons_of_mem _ hx)
    have := h p (List.mem_cons_self ..)
    simp only [List.map_cons, List.sum_cons, List.length_cons, mk_len]
    rw [Nat.succ_mul]
    omega
theorem pl_mark_of : PL_mark_of F_mark_of F_rests := by
  intro ds q a0 _ h
  obtain ⟨T, keys, v, later, rfl, hl, hv, hr, hk, hq⟩ := h
  simp [t_mark_of, -e_forGo1]
  intro p3
  refine for_at (α := List Bool) (β := List (List Bool × List Bool) × Option Cell × Option Cell × Option Cell) Wd
    (fun z => [some (.val (.dict (tabW T keys))), some (.val (Wd v)), some (.val (.list (later.map Wd))), some (.own p3 (.list ((z.1.map pieceC).map fun p => S p))), z.2.1, z.2.2.1, z.2.2.2])
    (fun r z => z.1 ++ markT T r v = markT T later v ∧ (∀ x ∈ r, x ∈ later)) ?_ ?_ later ([], none, none, none) ⟨rfl, fun _ h => h⟩
  · rintro ⟨ps, x4, x5, x6⟩ ⟨e, _⟩
    simp only [markT, List.map_nil, List.append_nil] at e
    subst e
    simp [strs_S, -List.map_map]
    refine ⟨?_, ?_⟩
    · have := sum_S (ps := (later.map fun r => restP (T v) (T (v ++ r))).map pieceC) (n := 2001) fun p hp => by
        simp only [List.map_map, List.mem_map] at hp
        obtain ⟨r, hr', rfl⟩ := hp
        have l := restP_len (T v) (T (v ++ r))
        have a := (hk v hv).2
        have b := (hk _ (hr r hr')).2
        simp [pieceC]
        omega
      simp [-List.map_map] at this
      omega
    · have := join_mk [32] ((later.map fun r => restP (T v) (T (v ++ r))).map pieceC)
      rw [this]
      exact hq
  · rintro r rs ⟨ps, x4, x5, x6⟩ ⟨e, mem⟩ N hN
    have mr := mem r (List.mem_cons_self ..)
    have kv := hr r mr
    have a := hk v hv
    have b := hk _ kv
    have rl : r.length ≤ 1000 := by have := b.1; rw [List.length_append] at this; omega
    have l := restP_len (T v) (T (v ++ r))
    have pl : ps.length < later.length := by
      have := congrArg List.length e
      simp [markT] at this
      omega
    simp [tabW_get hv, tabW_get kv]
    refine ⟨by omega, T v, T (v ++ r), rfl, by omega, by omega, ?_⟩
    have fin := hN (ps ++ [restP (T v) (T (v ++ r))], some (.val (Wd r)), some (.val (Wd (restA (T v) (T (v ++ r))))), some (.val (Wd (restB (T v) (T (v ++ r)))))) ⟨by rw [← e]; simp [markT], fun x hx => mem x (List.mem_cons_of_mem _ hx)⟩
    have l1 : (restA (T v) (T (v ++ r))).length ≤ (T v).length := l.1
    have l2 : (restB (T v) (T (v ++ r))).length ≤ (T (v ++ r)).length := l.2
    simp
    refine ⟨by omega, by omega, by omega, ?_⟩
    simpa [pieceC, restP, restA, restB] using fin
def optW : Option (List Bool) → PyData
  | none => .none
  | some w => Wd w
theorem lcpW_rest (a b : List Bool) : a.take (a.length - (restP a b).1.length) = lcpW a b := by
  unfold restP lcpW
  simp
  congr 1
  have := (lcp_le a b).1
  omega
theorem at_E {E : Nat → Nat} {m p : Nat} (h : p < m) : atI ((List.range m).map fun k => PyData.int (E k : Nat)) (p : Int) = some (.int (E p : Nat)) := atI_nat (by rw [List.getElem?_map, List.getElem?_range h]; rfl)
theorem lt_cast {a b : Nat} : decide ((a : Int) < (b : Int)) = decide (a < b) := decide_eq_decide.mpr (by omega)
theorem cut_sub {w : List Bool} {n : Nat} (h : n ≤ w.length) : cutD (enc w) none (some ((w.length : Int) - (n : Int))) = enc (w.take (w.length - n)) := by
  rw [show ((w.length : Int) - (n : Int)) = ((w.length - n : Nat) : Int) by omega, cut_toN, enc_take]
def F_sure_of : DF := fun ds q => ∃ (T : List Bool → List Bool) (keys : List (List Bool)) (v : List Bool) (p : Nat × Nat) (m : Nat) (E : Nat → Nat), ds = [.dict (tabW T keys), Wd v, .list [.int (p.1 : Nat), .int (p.2 : Nat)], .list ((List.range m).map fun k => .int (E k : Nat))] ∧ v ∈ keys ∧ v ++ [false] ∈ keys ∧ v ++ [true] ∈ keys ∧ (∀ v ∈ keys, v.length ≤ 1000 ∧ (T v).length ≤ 1000) ∧ p.1 < m ∧ p.2 < m ∧ q (optW (sureT T v p E)) .none
theorem pl_sure_of : PL_sure_of F_sure_of F_rests := by
  intro ds q a0 _ h
  obtain ⟨T, keys, v, p, m, E, rfl, hv, h0, h1, hk, p0, p1, hq⟩ := h
  have k0 := hk v hv
  have k1 := hk _ h0
  have k2 := hk _ h1
  have r2 : (List.range 2).map (fun k => PyData.int (k : Nat)) = [.int 0, .int 1] := rfl
  simp [t_sure_of, tabW_get hv, -e_forGo1]
  rw [r2]
  have a0 : atI (L (mk [76, 82])) (0 : Int) = some 76 := rfl
  have a1 : atI (L (mk [76, 82])) (1 : Int) = some 82 := rfl
  have z0 := at_E (E := E) p0
  have z1 := at_E (E := E) p1
  have c0 : (cutE (T (v ++ [false])) (E p.1)).length ≤ 1000 := by unfold cutE; rw [List.length_take]; omega
  have c1 : (cutE (T (v ++ [true])) (E p.2)).length ≤ 1000 := by unfold cutE; rw [List.length_take]; omega
  have l1 : (lcpW (T v) (cutE (T (v ++ [false])) (E p.1))).length ≤ 1000 := Nat.le_trans (lcpW_left _ _).length_le k0.2
  simp [a0, tabW_get h0, z0]
  refine ⟨by omega, by omega, ?_⟩
  unfold sureT at hq
  by_cases d0 : (T (v ++ [false])).length < E p.1
  · rw [if_pos d0] at hq ⊢
    exact hq
  rw [if_neg d0] at hq ⊢
  have u0 := cut_sub (w := T (v ++ [false])) (n := E p.1) (by omega)
  refine ⟨by omega, by omega, T v, cutE (T (v ++ [false])) (E p.1), by rw [u0]; rfl, by omega, by omega, ?_⟩
  have t0 : (restA (T v) (cutE (T (v ++ [false])) (E p.1))).length ≤ (T v).length := (restP_len _ _).1
  have u2 : cutD (enc (T v)) none (some (((T v).length : Int) - ((restA (T v) (cutE (T (v ++ [false])) (E p.1))).length : Int))) = enc (lcpW (T v) (cutE (T (v ++ [false])) (E p.1))) := by
    rw [cut_sub t0]
    exact congrArg enc (lcpW_rest _ _)
  simp [u2, a1, tabW_get h1, z1]
  refine ⟨by omega, by omega, by omega, by omega, ?_⟩
  by_cases d1 : (T (v ++ [true])).length < E p.2
  · rw [if_pos d1] at hq ⊢
    exact hq
  rw [if_neg d1] at hq ⊢
  have u1 := cut_sub (w := T (v ++ [true])) (n := E p.2) (by omega)
  refine ⟨by omega, by omega, lcpW (T v) (cutE (T (v ++ [false])) (E p.1)), cutE (T (v ++ [true])) (E p.2), by rw [u1]; rfl, by omega, by omega, ?_⟩
  have t1 : (restA (lcpW (T v) (cutE (T (v ++ [false])) (E p.1))) (cutE (T (v ++ [true])) (E p.2))).length ≤ (lcpW (T v) (cutE (T (v ++ [false])) (E p.1))).length := (restP_len _ _).1
  have u3 : cutD (enc (lcpW (T v) (cutE (T (v ++ [false])) (E p.1)))) none (some (((lcpW (T v) (cutE (T (v ++ [false])) (E p.1))).length : Int) - ((restA (lcpW (T v) (cutE (T (v ++ [false])) (E p.1))) (cutE (T (v ++ [true])) (E p.2))).length : Int))) = enc (lcpW (lcpW (T v) (cutE (T (v ++ [false])) (E p.1))) (cutE (T (v ++ [true])) (E p.2))) := by
    rw [cut_sub t1]
    exact congrArg enc (lcpW_rest _ _)
  simp [u2, u3]
  refine ⟨by omega, by omega, ?_⟩
  exact hq
def F_word_between : DF := fun ds q => ∃ (T : List Bool → List Bool) (keys : List (List Bool)) (v : List Bool) (a : Bool) (e l : Nat), ds = [.dict (tabW T keys), Wd v, S [sg a], .int (e : Nat), .int (l : Nat)] ∧ v ∈ keys ∧ v ++ [a] ∈ keys ∧ (∀ v ∈ keys, v.length ≤ 1000 ∧ (T v).length ≤ 1000) ∧ e ≤ (T v).length ∧ l ≤ (T (v ++ [a])).length ∧ q (Wd (wordB T v a e l)) .none
theorem cut_two {w : List Nat} {i j : Nat} : cutD w (some (i : Int)) (some (j : Int)) = (w.take j).drop i := by
  unfold cutD
  rw [HT.sIx_nat, HT.sIx_nat, List.drop_take]
  by_cases h : i ≤ w.length
  · rw [Nat.min_eq_left h]
    by_cases k : j ≤ w.length
    · rw [Nat.min_eq_left k]
    · rw [Nat.min_eq_right (by omega), List.take_of_length_le (by rw [List.length_drop]; omega), List.take_of_length_le (by rw [List.length_drop]; omega)]
  · rw [Nat.min_eq_right (show w.length ≤ i by omega), List.drop_eq_nil_of_le (Nat.le_refl _), List.drop_eq_nil_of_le (show w.length ≤ i by omega)]
    simp
theorem pl_word_between : PL_word_between F_word_between := by
  intro ds q a0 _ h
  obtain ⟨T, keys, v, a, e, l, rfl, hv, h0, hk, he, hl, hq⟩ := h
  have k0 := hk v hv
  have k1 := hk _ h0
  have ew : S [sg a] = Wd [a] := rfl
  have c : cutD (enc (T (v ++ [a]))) (some (((T v).length : Int) - (e : Int))) (some (((T (v ++ [a])).length : Int) - (l : Int))) = enc (wordB T v a e l) := by
    rw [show ((T v).length : Int) - (e : Int) = (((T v).length - e : Nat) : Int) by omega, show ((T (v ++ [a])).length : Int) - (l : Int) = (((T (v ++ [a])).length - l : Nat) : Int) by omega, cut_two, enc_take, enc_drop]
    rfl
  simp [t_word_between, ew, tabW_get hv, tabW_get h0, c]
  exact ⟨by omega, by omega, by omega, hq⟩
end DL
namespace DL
open PySem PySem.Spec PyProof.Rows L2
open Sy
theorem roads_mem : ∀ (k : Nat) (v : List Bool), v ∈ roadsTo k ↔ v.length ≤ k := by
  have lev : ∀ (v : List Bool), ∃ i, nth i = v := fun v => by
    have : ∀ (u : List Bool), ∃ i, nth i = u.reverse := fun u => by
      induction u with
      | nil => exact ⟨0, nth0⟩
      | cons b u ih =>
        obtain ⟨i, e⟩ := ih
        cases b
        · exact ⟨2 * i + 1, by rw [nth1, e, List.reverse_cons]⟩
        · exact ⟨2 * i + 2, by rw [nth2, e, List.reverse_cons]⟩
    obtain ⟨i, e⟩ := this v.reverse
    exact ⟨i, by rw [e, List.reverse_reverse]⟩
  intro k v
  unfold roadsTo
  rw [List.mem_map]
  constructor
  · rintro ⟨i, hi, rfl⟩
    have := nth_short (k + 1) i (by have := List.mem_range.mp hi; have : 0 < 2 ^ (k + 1) := Nat.pow_pos (by decide); omega)
    omega
  · intro h
    obtain ⟨i, rfl⟩ := lev v
    refine ⟨i, List.mem_range.mpr ?_, rfl⟩
    refine Classical.byContradiction fun z => ?_
    -- the length of nth i is at least that of its place
    have big : ∀ (j i : Nat), 2 ^ j ≤ i + 1 → j ≤ (nth i).length := by
      intro j
      induction j with
      | zero => intro i _; omega
      | succ j ih =>
        intro i hi
        have e1 : 2 ^ (j + 1) = 2 * 2 ^ j := by rw [Nat.pow_succ]; omega
        have p : 0 < 2 ^ j := Nat.pow_pos (by decide)
        obtain ⟨m, hm⟩ : ∃ m, i = 2 * m + 1 ∨ i = 2 * m + 2 := ⟨(i - 1) / 2, by omega⟩
        have := ih m (by omega)
        rcases hm with rfl | rfl
        · rw [nth1, List.length_append, List.length_singleton]; omega
        · rw [nth2, List.length_append, List.length_singleton]; omega
    have := big (k + 1) i (by omega)
    omega
@[simp] theorem seqD_LR : seqD (S [76, 82]) = some ([false, true].map fun t => Wd [t]) := id rfl
def pairD2 (p : Nat × Nat) : PyData := .list [.int (p.1 : Nat), .int (p.2 : Nat)]
def clsD : Option (List (List Bool) × List (Nat × Nat)) → PyData
  | none => .none
  | some z => .tuple [.list (z.1.map Wd), .list (z.2.map pairD2)]
/-- a table with all roads that are asked for -/
def TabIn (T : List Bool → List Bool) (keys : List (List Bool)) (n : Nat) : Prop := 1 ≤ n ∧ n ≤ 8 ∧ (∀ v ∈ keys, v.length ≤ 1000 ∧ (T v).length ≤ 1000) ∧ ∀ v : List Bool, v.length ≤ 2 * n - 1 → v ∈ keys
def bIdx {α : Type} [DecidableEq α] (mk : List Bool → α) (f : List (List Bool)) (r : List Bool) : Nat := (f.map mk).idxOf (mk r)
theorem kDict_mark (xs : List (List (List Bool × List Bool))) : kDict (numG markD 0 xs) = true := by cases xs <;> exact id rfl
def F_classes_of : DF := fun ds q => ∃ (T : List Bool → List Bool) (keys : List (List Bool)) (n : Nat), ds = [.dict (tabW T keys), .int (n : Nat)] ∧ TabIn T keys n ∧ q (clsD (bGo (markT T (roadsTo (n - 1))) n (n + 1) [[]] [])) .none
theorem pl_classes_of : PL_classes_of F_classes_of F_roads_to F_mark_of := by
  intro ds q a0 _ h
  obtain ⟨T, keys, n, rfl, ⟨n1, n10, hk, hin⟩, hq⟩ := h
  simp [t_classes_of, -e_forGo1]
  refine ⟨n - 1, by congr; omega, by omega, ?_⟩
  simp [-e_forGo1]
  let later := roadsTo (n - 1)
  let mk := markT T later
  have ll : later.length ≤ 1000 := by
    have : 2 ^ (n - 1 + 1) ≤ 2 ^ 8 := Nat.pow_le_pow_right (by decide) (by omega)
    simp only [later, roadsTo, List.length_map, List.length_range]
    omega
  have lm : ∀ r ∈ later, r.length ≤ n - 1 := fun r hr => (roads_mem (n - 1) r).mp hr
  have mark : ∀ (v : List Bool) (K : PyData → PyData → Prop), v.length ≤ n → K (markD (mk v)) .none → F_mark_of [.dict (tabW T keys), Wd v, .list (later.map Wd)] K := fun v K hv hK =>
    ⟨T, keys, v, later, rfl, ll, hin v (by omega), fun r hr => hin _ (by rw [List.length_append]; have := lm r hr; omega), hk, hK⟩
  refine mark [] _ (by simp) ?_
  simp [-e_forGo1]
  intro p3 p4 p5
  refine while_at (α := (List (List Bool) × List (Nat × Nat)) × Option Cell × Option Cell × Option Cell × Option Cell)
    (fun z => [some (.val (.dict (tabW T keys))), some (.val (.int n)), some (.val (.list (later.map Wd))), some (.own p3 (.list (z.1.1.map Wd))), some (.own p4 (.dict (numG markD 0 (z.1.1.map mk)))), some (.own p5 (.list (z.1.2.map pairD2))), z.2.1, z.2.2.1, z.2.2.2.1, z.2.2.2.2])
    (fun z => Found n z.1.1 z.1.2 ∧ ∃ k, bGo mk n k z.1.1 z.1.2 = bGo mk n (n + 1) [[]] [] ∧ n < k + z.1.2.length)
    (fun z => n + 1 - z.1.2.length) (fun z => decide (z.1.2.length < z.1.1.length)) (x0 := (([[]], []), none, none, none, none)) ⟨found0 n1, n + 1, rfl, by simp⟩ ?_ ?_ ?_
  · rintro ⟨⟨f, mv⟩, x6, x7, x8, x9⟩ _ K hK
    simp at hK ⊢
    exact hK
  · rintro ⟨⟨f, mv⟩, x6, x7, x8, x9⟩ ⟨F, k, e, ln⟩ ht N hN
    simp at e ln ht hN
    obtain ⟨r, hr⟩ : ∃ r, f[mv.length]? = some r := ⟨_, List.getElem?_eq_getElem ht⟩
    have sh := F.sh _ _ hr
    have fle := F.le
    simp only at sh fle F
    simp [-e_forGo1, -List.map_cons]
    intro p6
    let f1 := bAdd mk f (r ++ [false])
    let f2 := bAdd mk f1 (r ++ [true])
    let i1 := bIdx mk f1 (r ++ [false])
    let i2 := bIdx mk f2 (r ++ [true])
    have l1 : f1.length ≤ f.length + 1 := by simp only [f1, bAdd]; split <;> simp
    have l2 : f2.length ≤ f1.length + 1 := by simp only [f2, bAdd]; split <;> simp
    have g1 : f1[mv.length]? = some r := by
      obtain ⟨q, eq⟩ := bAdd_pre (mk := mk) f (r ++ [false])
      simp only [f1]
      rw [← eq]
      exact get_app hr q
    refine for_at (α := Bool) (β := (List (List Bool) × List Nat) × Option Cell × Option Cell × Option Cell) (fun t => Wd [t])
      (fun z => [some (.val (.dict (tabW T keys))), some (.val (.int n)), some (.val (.list (later.map Wd))), some (.own p3 (.list (z.1.1.map Wd))), some (.own p4 (.dict (numG markD 0 (z.1.1.map mk)))), some (.own p5 (.list (mv.map pairD2))), some (.own p6 (.list (z.1.2.map intN))), z.2.1, z.2.2.1, z.2.2.2])
      (fun t z => (t = [false, true] ∧ z.1 = (f, [])) ∨ (t = [true] ∧ z.1 = (f1, [i1])) ∨ (t = [] ∧ z.1 = (f2, [i1, i2]))) ?_ ?_ [false, true] ((f, []), x7, x8, x9) (.inl ⟨rfl, rfl⟩)
    · rintro ⟨z, y7, y8, y9⟩ h
      simp at h
      subst h
      simp
      cases k with
      | zero => have := F.few; omega
      | succ k =>
        have e2 : bGo mk n (k + 1) f mv = if n < f2.length then none else bGo mk n k f2 (mv ++ [(i1, i2)]) := by
          show (match f[mv.length]? with | none => _ | some r => if n < (bStep mk f r).1.length then none else bGo mk n k (bStep mk f r).1 (mv ++ [(bStep mk f r).2])) = _
          rw [hr]
          rfl
        by_cases c : n < f2.length
        · rw [if_pos c] at e2 ⊢
          rw [← e, e2] at hq
          exact hq
        · rw [if_neg c] at e2 ⊢
          refine ⟨by omega, ?_⟩
          have F2 : Found n f2 (mv ++ [(i1, i2)]) := F.step (mk := mk) hr c
          have := hN f2 (mv ++ [(i1, i2)]) (some (.val (PyData.list [intN i1, intN i2]))) y7 y8 y9 F2 k (by rw [← e2, e]) (by simp; omega) (by simp; omega)
          simpa [pairD2] using this
    · rintro t ts ⟨z, y7, y8, y9⟩ h M hM
      obtain ⟨g, ps, rfl, hg, gl, pl, hM'⟩ : ∃ (g : List (List Bool)) (ps : List Nat), z = (g, ps) ∧ g[mv.length]? = some r ∧ g.length ≤ n + 1 ∧ ps.length ≤ 1 ∧ 
          (∀ y7 y8 y9, M [some (.val (.dict (tabW T keys))), some (.val (.int n)), some (.val (.list (later.map Wd))), some (.own p3 (.list ((bAdd mk g (r ++ [t])).map Wd))), some (.own p4 (.dict (numG markD 0 ((bAdd mk g (r ++ [t])).map mk)))), some (.own p5 (.list (mv.map pairD2))), some (.own p6 (.list ((ps ++ [bIdx mk (bAdd mk g (r ++ [t])) (r ++ [t])]).map intN))), y7, y8, y9]) := by
        simp at h
        rcases h with ⟨⟨rfl, rfl⟩, rfl⟩ | ⟨⟨rfl, rfl⟩, rfl⟩
        · exact ⟨f, [], rfl, hr, by omega, by simp, fun y7 y8 y9 => hM ((f1, [i1]), y7, y8, y9) (.inr (.inl ⟨rfl, rfl⟩))⟩
        · exact ⟨f1, [i1], rfl, g1, by omega, by simp, fun y7 y8 y9 => hM ((f2, [i1, i2]), y7, y8, y9) (.inr (.inr ⟨rfl, rfl⟩))⟩
      simp [hg]
      refine ⟨by omega, mark (r ++ [t]) _ (by simp; omega) ?_⟩
      have get := fun xs => numK_get keyB_mark (mk (r ++ [t])) xs
      by_cases c : mk (r ++ [t]) ∈ g.map mk
      · have ba : bAdd mk g (r ++ [t]) = g := if_pos c
        rw [ba] at hM'
        have fin := hM' (some (.val (Wd [t]))) (some (.val (S (enc (r ++ [t]))))) (some (.val (markD (mk (r ++ [t])))))
        simp only [List.map_append, List.map_cons, List.map_nil] at fin
        simp [get, c, -List.mem_map]
        exact ⟨kDict_mark _, by omega, fin⟩
      · have ba : bAdd mk g (r ++ [t]) = g ++ [r ++ [t]] := if_neg c
        rw [ba] at hM'
        have pt := numK_put keyB_mark c
        rw [List.length_map] at pt
        have fin := hM' (some (.val (Wd [t]))) (some (.val (S (enc (r ++ [t]))))) (some (.val (markD (mk (r ++ [t])))))
        simp only [List.map_append, List.map_cons, List.map_nil] at fin
        simp [get, c, pt, numG_len, kDict_mark, -List.mem_map]
        repeat refine ⟨by omega, ?_⟩
        simpa [bIdx, -List.mem_map] using fin
  · rintro ⟨⟨f, mv⟩, x6, x7, x8, x9⟩ ⟨F, k, e, ln⟩ ht
    simp at e ln ht
    have few := F.few
    have le := F.le
    simp only at few le
    cases k with
    | zero => omega
    | succ k =>
      have e2 : bGo mk n (k + 1) f mv = some (f, mv) := by
        unfold bGo
        rw [List.getElem?_eq_none (by omega)]
      rw [← e, e2] at hq
      simp
      exact hq
end DL
namespace DL
open PySem PySem.Spec PyProof.Rows L2
open Sy
@[simp ↓] theorem e_dOrV {ta tb : DT} {ρ : DEnv} {q : OV → DEnv → Prop} : dOrV ta tb ρ q = (ta ρ fun o ρ' => o.rd ρ' fun d => match d with
  | .bool b => if b = true then q (.vl (.bool true)) ρ' else tb ρ' q
  | _ => False) := id rfl
theorem ixN_nat {n k : Nat} (h : k < n) : ixN n (k : Int) = some k := by
  unfold ixN
  simp
  omega
def ends2D (m : Nat) : Option (Nat → Nat) → PyData
  | none => .none
  | some E => .list ((List.range m).map fun k => .int (E k : Nat))
theorem set_E {E : Nat → Nat} {m k x : Nat} : ((List.range m).map fun k => PyData.int (E k : Nat)).set k (.int (x : Nat)) = (List.range m).map fun j => .int (updE E k x j : Nat) := by
  refine List.ext_getElem? fun i => ?_
  rw [List.getElem?_set, List.getElem?_map, List.getElem?_map, List.length_map, List.length_range]
  by_cases hi : i < m
  · rw [List.getElem?_range hi]
    unfold updE
    by_cases c : k = i
    · subst c
      simp [hi]
    · have : ¬ i = k := fun z => c z.symm
      simp [c, this]
  · rw [List.getElem?_eq_none (by simpa using hi)]
    by_cases c : k = i
    · subst c
      simp [hi]
    · simp [c]
theorem at_mv {mv : List (Nat × Nat)} {k : Nat} (h : k < mv.length) : atI (mv.map pairD2) (k : Int) = some (pairD2 (mvAt mv k)) := atI_nat (by
  unfold mvAt
  rw [List.getElem?_map, List.getD_eq_getElem?_getD, List.getElem?_eq_getElem h]
  rfl)
theorem enum_W (R : List (List Bool)) : (List.range R.length).zipWith (fun k d => PyData.tuple [.int (k : Nat), d]) (R.map Wd) = (List.range' 0 R.length).map fun k => .tuple [.int (k : Nat), Wd (R.getD k [])] := by
  refine List.ext_getElem? fun i => ?_
  rw [List.getElem?_zipWith, List.getElem?_map, List.getElem?_map, ← List.range_eq_range']
  by_cases h : i < R.length
  · rw [List.getElem?_range h, List.getElem?_eq_getElem h]
    simp [List.getElem?_eq_getElem h]
  · rw [List.getElem?_eq_none (show (List.range R.length).length ≤ i by simpa using h)]
    rfl
def F_ends_of : DF := fun ds q => ∃ (T : List Bool → List Bool) (keys : List (List Bool)) (n : Nat) (R : List (List Bool)) (mv : List (Nat × Nat)), ds = [.dict (tabW T keys), .list (R.map Wd), .list (mv.map pairD2)] ∧ TabIn T keys n ∧ Found n R mv ∧ mv.length = R.length ∧ q (ends2D R.length (endsT T (mvAt mv) R)) .none
theorem pl_ends_of : PL_ends_of F_ends_of F_sure_of := by
  intro ds q a0 _ h
  obtain ⟨T, keys, n, R, mv, rfl, ⟨n1, n10, hk, hin⟩, F, ml, hq⟩ := h
  have rn := F.le
  simp [t_ends_of, -e_forGo1]
  refine lc_at Wd (fun _ => .int 0) R rfl (fun x _ Q1 Q2 hQ => ?_) (by omega) ?_
  · simp
    exact hQ _ rfl
  have z0 : (R.map fun _ => PyData.int 0) = (List.range R.length).map fun k => PyData.int ((fun _ => 0 : Nat → Nat) k : Nat) := by
    refine List.ext_getElem? fun i => ?_
    rw [List.getElem?_map, List.getElem?_map]
    by_cases h : i < R.length
    · rw [List.getElem?_range h, List.getElem?_eq_getElem h]
      rfl
    · rw [List.getElem?_eq_none (by omega), List.getElem?_eq_none (by simpa using h)]
      rfl
  rw [z0]
  generalize hE : (fun _ => 0 : Nat → Nat) = E0
  simp [-e_forGo1]
  intro p3
  subst hE
  refine while_at (α := ((Nat → Nat) × Bool) × Option Cell × Option Cell × Option Cell)
    (fun z => [some (.val (.dict (tabW T keys))), some (.val (.list (R.map Wd))), some (.val (.list (mv.map pairD2))), some (.own p3 (.list ((List.range R.length).map fun k => .int (z.1.1 k : Nat)))), some (.val (.bool z.1.2)), z.2.1, z.2.2.1, z.2.2.2])
    (fun z => JE T (mvAt mv) R z.1.1 ∧ (∀ k v, R[k]? = some v → z.1.1 k ≤ (T v).length) ∧ (z.1.2 = true → ∃ i, endsGo T (mvAt mv) R i z.1.1 = endsT T (mvAt mv) R ∧ boundE T R < i + sumE R.length z.1.1) ∧ (z.1.2 = false → endsT T (mvAt mv) R = some z.1.1))
    (fun z => if z.1.2 then boundE T R + 1 - sumE R.length z.1.1 else 0) (fun z => z.1.2) (x0 := ((fun _ => 0, true), none, none, none)) ⟨JE0 T _ R, fun _ _ _ => Nat.zero_le _, fun _ => ⟨_, rfl, by omega⟩, fun h => by cases h⟩ ?_ ?_ ?_
  · rintro ⟨⟨E, g⟩, x5, x6, x7⟩ _ K hK
    simp at hK ⊢
    exact hK
  · rintro ⟨⟨E, g⟩, x5, x6, x7⟩ ⟨J, B, it, _⟩ ht N hN
    simp only at J B it ht hN
    subst ht
    obtain ⟨i, e, li⟩ := it rfl
    simp [-e_forGo1]
    rw [enum_W]
    refine for_at (α := Nat) (β := ((Nat → Nat) × Bool) × Option Cell × Option Cell × Option Cell) (fun k => .tuple [.int (k : Nat), Wd (R.getD k [])])
      (fun z => [some (.val (.dict (tabW T keys))), some (.val (.list (R.map Wd))), some (.val (.list (mv.map pairD2))), some (.own p3 (.list ((List.range R.length).map fun k => .int (z.1.1 k : Nat)))), some (.val (.bool z.1.2)), z.2.1, z.2.2.1, z.2.2.2])
      (fun r z => ∃ k, k ≤ R.length ∧ r = List.range' k (R.length - k) ∧ passE T (mvAt mv) k (R.drop k) z.1 = passE T (mvAt mv) 0 R (E, false) ∧ JE T (mvAt mv) R z.1.1 ∧ (∀ k v, R[k]? = some v → z.1.1 k ≤ (T v).length)) ?_ ?_ (List.range' 0 R.length) ((E, false), x5, x6, x7) ⟨0, by omega, rfl, rfl, J, B⟩
    · rintro ⟨⟨E', g'⟩, y5, y6, y7⟩ ⟨k, hk1, hr, he, J', B'⟩
      simp only at he J' B'
      have kk : k = R.length := by
        have := congrArg List.length hr
        simp at this
        omega
      subst kk
      rw [List.drop_length] at he
      have he2 : passE T (mvAt mv) 0 R (E, false) = some (E', g') := he.symm
      obtain ⟨_, _, c, d⟩ := passE_ok R 0 (E, false) (E', g') (fun i v hi => by rwa [Nat.zero_add]) J he2
      simp only at c d
      have sb := sumE_map E' R T B'
      have sE := sumE_map E R T B
      cases i with
      | zero => have := sumE_map E R T B; omega
      | succ i =>
        have e3 : endsGo T (mvAt mv) R (i + 1) E = if g' = true then endsGo T (mvAt mv) R i E' else some E' := by
          show (match passE T (mvAt mv) 0 R (E, false) with | none => none | some z => if z.2 = true then endsGo T (mvAt mv) R i z.1 else some z.1) = _
          rw [he2]
        refine hN ((E', g'), y5, y6, y7) ⟨J', B', fun hg => ?_, fun hg => ?_⟩ ?_
        · simp only at hg ⊢
          rw [if_pos hg] at e3
          rcases c hg with c | c
          · cases c
          · exact ⟨i, by rw [← e3, e], by omega⟩
        · simp only at hg ⊢
          rw [hg, if_neg Bool.false_ne_true] at e3
          rw [← e, e3]
        · simp only
          cases g' with
          | false => simp; omega
          | true =>
            rcases c rfl with c | c
            · cases c
            · simp; omega
    · rintro s r ⟨⟨E', g'⟩, y5, y6, y7⟩ ⟨k, hk1, hr, he, J', B'⟩ M hM
      simp only at he J' B' hM
      obtain ⟨j, hj⟩ : ∃ j, R.length - k = j + 1 := by
        cases c : R.length - k with
        | zero => rw [c] at hr; cases hr
        | succ j => exact ⟨j, rfl⟩
      rw [hj, List.range'_succ] at hr
      obtain ⟨rfl, rfl⟩ := List.cons.inj hr
      obtain ⟨v, hv⟩ : ∃ v, R[s]? = some v := ⟨_, List.getElem?_eq_getElem (show s < R.length by omega)⟩
      have gd : R.getD s [] = v := by rw [List.getD_eq_getElem?_getD, hv]; rfl
      have dr : R.drop s = v :: R.drop (s + 1) := by
        rw [List.drop_eq_getElem_cons (show s < R.length by omega)]
        congr 1
        exact Option.some.inj ((List.getElem?_eq_getElem _).symm.trans hv)
      have vl := F.sh s v hv
      have tl := (hk v (hin v (by omega))).2
      have ms := F.mvs (mvAt mv s) (by
        unfold mvAt
        rw [List.getD_eq_getElem?_getD, List.getElem?_eq_getElem (by omega)]
        exact List.getElem_mem _)
      rw [gd]
      rw [dr] at he
      have amv := at_mv (mv := mv) (k := s) (by omega)
      simp [amv]
      have il := (List.getElem?_eq_some_iff.mp hv).1
      refine ⟨T, keys, v, mvAt mv s, R.length, E', rfl, hin v (by omega), hin _ (by simp; omega), hin _ (by simp; omega), hk, ms.1, ms.2, ?_⟩
      have pe : passE T (mvAt mv) s (v :: R.drop (s + 1)) (E', g') = match sureT T v (mvAt mv s) E' with
        | none => none
        | some u => passE T (mvAt mv) (s + 1) (R.drop (s + 1)) (updE E' s (newE T v u), g' || decide (E' s < newE T v u)) := rfl
      rw [pe] at he
      cases hs : sureT T v (mvAt mv s) E' with
      | none =>
        rw [hs] at he
        have e3 : endsT T (mvAt mv) R = none := by
          rw [← e]
          cases i with
          | zero => rfl
          | succ i =>
            show (match passE T (mvAt mv) 0 R (E, false) with | none => none | some z => if z.2 = true then endsGo T (mvAt mv) R i z.1 else some z.1) = _
            rw [← he]
        rw [e3] at hq
        simp [optW]
        exact hq
      | some u =>
        rw [hs] at he
        simp only at he
        have ul := (sureT_pre hs).length_le
        have nl : newE T v u = (T v).length - u.length := rfl
        obtain ⟨J2, le2⟩ := J'.step hv hs
        have fin := fun (y5 y6 y7 : Option Cell) => hM ((updE E' s (newE T v u), g' || decide (E' s < newE T v u)), y5, y6, y7) ⟨s + 1, by omega, by congr 1; omega, he, J2, fun k w hw => by
          show (if k = s then newE T v u else E' k) ≤ _
          split
          · rename_i c
            subst c
            rw [hv] at hw
            cases hw
            omega
          · exact B' k w hw⟩
        have sub : ((T v).length : Int) - (u.length : Int) = ((newE T v u : Nat) : Int) := by rw [nl]; omega
        have tg := tabW_get (T := T) (hin v (by omega))
        have ix := ixN_nat (n := R.length) (k := s) il
        have ae := at_E (E := E') (m := R.length) (p := s) il
        cases g' with
        | true =>
          simp [optW, tg, sub, ix, set_E]
          refine ⟨by omega, by omega, ?_⟩
          exact fin _ _ _
        | false =>
          simp [optW, tg, sub, ix, set_E, ae]
          refine ⟨by omega, by omega, ?_⟩
          refine ⟨by omega, by omega, ?_⟩
          simpa using fin (some (.val (Wd v))) (some (.val (.int s))) (some (.val (Wd u)))
  · rintro ⟨⟨E, g⟩, x5, x6, x7⟩ ⟨_, _, _, fin⟩ ht
    simp only at ht fin
    subst ht
    rw [fin rfl] at hq
    simp
    exact hq
end DL
namespace DL
open PySem PySem.Spec PyProof.Rows L2
open Sy
@[simp ↓] theorem e_iZ3 {t : DTA} {ρ : DEnv} {qi : List PyData → DEnv → Prop} : iZ3 t ρ qi = (t ρ fun os ρ1 => tkAll os ρ1 fun ds ρ2 => match ds with
  | [d, e, f] => optP (seqD d) (fun xs => optP (seqD e) (fun ys => optP (seqD f) (fun zs => qi (zip3D xs ys zs) ρ2) ⟨⟩) ⟨⟩) ⟨⟩
  | _ => False) := by
  unfold iZ3
  congr 1
  funext os ρ1
  congr 1
  funext ds ρ2
  split
  · exact propext ⟨fun ⟨xs, ys, zs, a, b, c, d⟩ => ⟨xs, a, ys, b, zs, c, d⟩, fun ⟨xs, a, ys, b, zs, c, d⟩ => ⟨xs, ys, zs, a, b, c, d⟩⟩
  · rename_i hx
    first
    | rfl
    | (split
       · exact (hx _ _ _ rfl).elim
       · rfl)
theorem zip3_at (R : List (List Bool)) (mv : List (Nat × Nat)) (E : Nat → Nat) (h : mv.length = R.length) : zip3D (R.map Wd) (mv.map pairD2) ((List.range R.length).map fun k => .int (E k : Nat)) = (List.range' 0 R.length).map fun k => .tuple [Wd (R.getD k []), pairD2 (mvAt mv k), .int (E k : Nat)] := by
  refine List.ext_getElem? fun i => ?_
  unfold zip3D zip2D mvAt
  rw [List.getElem?_zipWith, List.getElem?_zipWith, List.getElem?_map, List.getElem?_map, List.getElem?_map, List.getElem?_map, ← List.range_eq_range']
  by_cases hi : i < R.length
  · rw [List.getElem?_range hi, List.getElem?_eq_getElem hi, List.getElem?_eq_getElem (show i < mv.length by omega)]
    simp [List.getElem?_eq_getElem hi, List.getElem?_eq_getElem (show i < mv.length by omega)]
  · rw [List.getElem?_eq_none (show R.length ≤ i by omega), List.getElem?_eq_none (show (List.range R.length).length ≤ i by simpa using hi)]
    rfl
theorem nth_inj : ∀ (i j : Nat), nth i = nth j → i = j
  | 0, j, h => by
    cases j with
    | zero => rfl
    | succ j =>
      rw [nth0, nth] at h
      simp at h
  | i + 1, 0, h => by
    rw [nth0, nth] at h
    simp at h
  | i + 1, j + 1, h => by
    rw [nth, nth] at h
    obtain ⟨a, b⟩ := List.append_inj' h rfl
    have := nth_inj (i / 2) (j / 2) a
    simp at b
    omega
theorem roads_nodup (k : Nat) : (roadsTo k).Nodup := by
  unfold roadsTo
  refine List.pairwise_map.mpr ?_
  exact List.nodup_range.imp fun ne e => ne (nth_inj _ _ e)
theorem merge_W {T : List Bool → List Bool} : ∀ (r done : List (List Bool)), (done ++ r).Nodup → dMerge (tabW T done) ((r.map Wd).zip (r.map fun v => Wd (T v))) = tabW T (done ++ r)
  | [], done, _ => by rw [List.append_nil]; rfl
  | v :: r, done, h => by
    have nv : v ∉ done := fun z => (List.nodup_append.mp h).2.2 v z v (by simp) rfl
    have put : dPutD (tabW T done) (Wd v) (Wd (T v)) = tabW T (done ++ [v]) := by
      unfold dPutD
      rw [if_neg]
      · simp [tabW]
      · rw [List.any_eq_true]
        rintro ⟨e, he, k⟩
        obtain ⟨y, hy, rfl⟩ := List.mem_map.mp he
        rw [keyB_W] at k
        simp at k
        subst k
        exact nv hy
    show dMerge (dPutD (tabW T done) (Wd v) (Wd (T v))) ((r.map Wd).zip (r.map fun v => Wd (T v))) = _
    rw [put, merge_W r (done ++ [v]) (by rw [List.append_assoc]; exact h), List.append_assoc]
    rfl
theorem ends_fix {T : List Bool → List Bool} {mv : Nat → Nat × Nat} {R : List (List Bool)} : ∀ (i : Nat) (E0 E : Nat → Nat), JE T mv R E0 → endsGo T mv R i E0 = some E → ∀ k v, R[k]? = some v → ∃ s, sureT T v (mv k) E = some s ∧ E k = newE T v s
  | 0, _, _, _, e => by cases e
  | i + 1, E0, E, J, e => by
    unfold endsGo at e
    cases q : passE T mv 0 R (E0, false) with
    | none => rw [q] at e; cases e
    | some z =>
      rw [q] at e
      obtain ⟨a, b, c, d⟩ := passE_ok R 0 (E0, false) z (fun i v hi => by rwa [Nat.zero_add]) J q
      simp only at e
      split at e
      · exact ends_fix i _ _ a e
      · rename_i g
        cases e
        obtain ⟨_, d2, d3⟩ := d (by simpa using g)
        intro k v hk
        obtain ⟨s, h1, h2⟩ := d3 k v hk
        rw [Nat.zero_add] at h1 h2
        rw [d2]
        exact ⟨s, h1, h2⟩
theorem sureT_lens {T : List Bool → List Bool} {v : List Bool} {p : Nat × Nat} {E : Nat → Nat} {s : List Bool} (h : sureT T v p E = some s) : E p.1 ≤ (T (v ++ [false])).length ∧ E p.2 ≤ (T (v ++ [true])).length := by
  unfold sureT at h
  split at h
  · cases h
  · split at h
    · cases h
    · omega
theorem walk_st (rows : List Row) : ∀ (w : List Bool) (s : Nat), rowsIn rows → s < rows.length → walk rows s w = ((syOf rows).out s w, (syOf rows).st s w)
  | [], s, _, _ => rfl
  | t :: w, s, hr, hs => by
    have ih := walk_st rows w ((syOf rows).g s t) hr (hr.lt s t hs)
    have hrow := List.getElem?_eq_getElem hs
    have ew : (syOf rows).w s t = (mvOf rows[s] t).1 := by cases t <;> simp [syOf, hrow, mvOf]
    have eg : (syOf rows).g s t = (mvOf rows[s] t).2 := by cases t <;> simp [syOf, hrow, mvOf]
    rw [eg] at ih
    unfold walk
    rw [hrow]
    simp only
    rw [ih]
    show _ = ((syOf rows).w s t ++ (syOf rows).out ((syOf rows).g s t) w, (syOf rows).st ((syOf rows).g s t) w)
    rw [ew, eg]
theorem runM_R {f : List Bool} {rows : List Row} (hr : rowsIn rows) (w : List Bool) : runM f rows w = runR f rows w := by
  unfold runM runR
  rw [walk_st rows w 0 hr hr.1, List.append_assoc]
  congr 1
  have := Sy.run_out (syOf rows) w [] 0
  rw [List.append_nil] at this
  rw [this]
  congr 1
  have l := st_lt hr w 0 hr.1
  show ((rows[(syOf rows).st 0 w]?).map (·.2.2)).getD [] = (syOf rows).e ((syOf rows).st 0 w)
  generalize (syOf rows).st 0 w = s at l
  simp [syOf, List.getElem?_eq_getElem l]
theorem eqv_list : ∀ (a b : List (List Bool)), PyData.eqv (.list (a.map Wd)) (.list (b.map Wd)) = decide (a = b)
  | [], [] => rfl
  | [], _ :: _ => rfl
  | _ :: _, [] => rfl
  | x :: a, y :: b => by
    have ih := eqv_list a b
    show (PyData.eqv (Wd x) (Wd y) && PyData.eqv (.list (a.map Wd)) (.list (b.map Wd))) = _
    rw [eqv_Wd, ih, Bool.eq_iff_iff]
    simp
theorem shaped_list (a : List (List Bool)) : SeqAt.shaped (.list (a.map Wd)) = true := by
  have h1 : ∀ a : List (List Bool), PyData.canLayAll0 (a.map Wd) = true := by
    intro a
    induction a with
    | nil => rfl
    | cons x a ih =>
      simp only [List.map_cons, PyData.canLayAll0, PyData.canLay0, strOk_mk (enc_lt x), ih, Bool.and_self]
  have h2 : ∀ a : List (List Bool), PyData.depthAll (a.map Wd) = 0 := by
    intro a
    induction a with
    | nil => rfl
    | cons x a ih => simp only [List.map_cons, PyData.depthAll, PyData.depth, ih, Nat.max_self]
  unfold SeqAt.shaped
  simp only [PyData.canLay0, PyData.depth, h1, h2]
  rfl
theorem cmul_small (n : Nat) (h : n ≤ 8) : CMulA 2 (n : Int) := .inl (by decide)
theorem keysD_W : ∀ (ws : List (List Bool)), keysD (ws.map Wd) = true
  | [] => rfl
  | w :: ws => by simp [keysD, keysD_W ws]
theorem run_len1 {rows : List RowN} {B : Nat} (h : ∀ r ∈ rows, r.1.1.length ≤ B ∧ r.2.1.1.length ≤ B ∧ r.2.2.length ≤ B) : ∀ (v : List Bool) (s : Nat), ((syOf rows).run s v).length ≤ B * (v.length + 1)
  | [], s => by
    show ((syOf rows).e s).length ≤ _
    simp only [syOf]
    cases e : rows[s]? with
    | none => simp
    | some r => simpa using (h r (List.mem_of_getElem? e)).2.2
  | t :: v, s => by
    have ih := run_len1 h v ((syOf rows).g s t)
    show ((syOf rows).w s t ++ _).length ≤ _
    have w : ((syOf rows).w s t).length ≤ B := by
      simp only [syOf]
      cases e : rows[s]? with
      | none => simp
      | some r =>
        have := h r (List.mem_of_getElem? e)
        cases t
        · exact this.1
        · exact this.2.1
    rw [List.length_append, List.length_cons, Nat.mul_add B (v.length + 1) 1]
    omega
theorem run_len2 {f : List Bool} {rows : List RowN} {B : Nat} (hf : f.length ≤ B) (h : ∀ r ∈ rows, r.1.1.length ≤ B ∧ r.2.1.1.length ≤ B ∧ r.2.2.length ≤ B) (v : List Bool) : (runR f rows v).length ≤ B * (v.length + 2) := by
  have := run_len1 h v 0
  unfold runR
  rw [List.length_append, show v.length + 2 = v.length + 1 + 1 by omega, Nat.mul_add B (v.length + 1) 1]
  omega
def mfD : Option (List Bool × List Row) → PyData
  | none => .none
  | some m => macD m.1 m.2
def F_machine_from : DF := fun ds q => ∃ (T : List Bool → List Bool) (n : Nat), ds = [.list ((roadsTo (2 * n - 1)).map fun v => Wd (T v)), .int (n : Nat)] ∧ 1 ≤ n ∧ n ≤ 8 ∧ (∀ v ∈ roadsTo (2 * n - 1), (T v).length ≤ 1000) ∧ q (mfD (mfT T n (roadsTo (n - 1)) (roadsTo (2 * n - 1)))) .none
theorem pl_machine_from : PL_machine_from F_machine_from F_check_number F_check_road F_roads_to F_classes_of F_ends_of F_word_between F_run := by
  intro ds q a0 _ h
  obtain ⟨T, n, rfl, n1, n8, hT, hq⟩ := h
  have n15 : 2 * n - 1 ≤ 15 := by omega
  have kl : (roadsTo (2 * n - 1)).length ≤ 65535 := by
    have : 2 ^ (2 * n - 1 + 1) ≤ 2 ^ 16 := Nat.pow_le_pow_right (by decide) (by omega)
    simp only [roadsTo, List.length_map, List.length_range]
    omega
  have km := roads_mem (2 * n - 1)
  have TI : TabIn T (roadsTo (2 * n - 1)) n := ⟨n1, n8, fun v hv => ⟨by have := (km v).mp hv; omega, hT v hv⟩, fun v hv => (km v).mpr hv⟩
  simp [t_machine_from, -e_forGo1]
  refine ⟨n, 1, rfl, by omega, ?_⟩
  simp [-e_forGo1]
  refine for_at (α := List Bool) (β := Option Cell) (fun v => Wd (T v)) (fun z => [some (.val (.list ((roadsTo (2 * n - 1)).map fun v => Wd (T v)))), some (.val (.int n)), z, none, none, none, none, none, none, none, none, none, none, none, none])
    (fun r _ => ∀ v ∈ r, v ∈ roadsTo (2 * n - 1)) ?_ ?_ (roadsTo (2 * n - 1)) none fun _ h => h
  rotate_left
  · intro v r z hm N hN
    simp
    exact ⟨T v, rfl, by have := hT v (hm v (List.mem_cons_self ..)); omega, by simpa using hN _ fun x hx => hm x (List.mem_cons_of_mem _ hx)⟩
  intro z _
  simp [-e_forGo1]
  refine ⟨?cm, 2 * n - 1, by congr; omega, by omega, ?_⟩
  case cm => exact cmul_small n n8
  have mg : dMerge [] (((roadsTo (2 * n - 1)).map Wd).zip ((roadsTo (2 * n - 1)).map fun v => Wd (T v))) = tabW T (roadsTo (2 * n - 1)) := merge_W (roadsTo (2 * n - 1)) [] (by simpa using roads_nodup (2 * n - 1))
  simp [-e_forGo1, keysD_W]
  rw [mg]
  refine ⟨by omega, T, roadsTo (2 * n - 1), n, rfl, TI, ?_⟩
  unfold mfT at hq
  cases hb : bGo (markT T (roadsTo (n - 1))) n (n + 1) [[]] [] with
  | none =>
    rw [hb] at hq
    simp [clsD]
    exact hq
  | some w =>
    obtain ⟨R, mv⟩ := w
    obtain ⟨F, ml⟩ := Found.go (n + 1) _ _ (found0 n1) _ hb
    simp only at F ml
    rw [hb] at hq
    simp only at hq
    simp [clsD, -e_forGo1]
    refine ⟨T, roadsTo (2 * n - 1), n, R, mv, rfl, TI, F, ml, ?_⟩
    cases he : endsT T (mvAt mv) R with
    | none =>
      rw [he] at hq
      simp [ends2D]
      exact hq
    | some E =>
      rw [he] at hq
      simp only at hq
      have fx := ends_fix _ _ _ (JE0 T (mvAt mv) R) he
      simp [ends2D, -e_forGo1, zip3_at R mv E ml]
      intro p7
      let keys := roadsTo (2 * n - 1)
      let row := fun k => mfRow T E (R[k]?.getD []) (mvAt mv k) k
      have rn := F.le
      have facts : ∀ k, k < R.length → ∃ v, R[k]? = some v ∧ v ∈ keys ∧ v ++ [false] ∈ keys ∧ v ++ [true] ∈ keys ∧ E k ≤ (T v).length ∧ (mvAt mv k).1 < R.length ∧ (mvAt mv k).2 < R.length ∧ E (mvAt mv k).1 ≤ (T (v ++ [false])).length ∧ E (mvAt mv k).2 ≤ (T (v ++ [true])).length := fun k hk => by
        have hv := List.getElem?_eq_getElem hk
        have vl := F.sh k _ hv
        obtain ⟨u, h1, h2⟩ := fx k _ hv
        have h3 := sureT_lens h1
        have h4 := (sureT_pre h1).length_le
        have ms := F.mvs (mvAt mv k) (by
          unfold mvAt
          rw [List.getD_eq_getElem?_getD, List.getElem?_eq_getElem (by omega)]
          exact List.getElem_mem _)
        refine ⟨_, hv, (km _).mpr (by omega), (km _).mpr (by rw [List.length_append, List.length_singleton]; omega), (km _).mpr (by rw [List.length_append, List.length_singleton]; omega), ?_, ms.1, ms.2, h3.1, h3.2⟩
        rw [h2]
        unfold newE
        omega
      refine for_at (α := Nat) (β := List Row × Option PyData × Option PyData × Option PyData × Option PyData × Option PyData) (fun k => PyData.tuple [Wd (R[k]?.getD []), pairD2 (mvAt mv k), PyData.int (E k : Nat)])
        (fun y => [some (.val (.list (keys.map fun v => Wd (T v)))), some (.val (.int n)), z, some (.val (.list (keys.map Wd))), some (.val (.dict (tabW T keys))), some (.val (.tuple [.list (R.map Wd), .list (mv.map pairD2)])), some (.val (.list ((List.range R.length).map fun k => .int (E k : Nat)))), some (.own p7 (.list (y.1.map rowD))), none, y.2.1.map .val, y.2.2.1.map .val, y.2.2.2.1.map .val, y.2.2.2.2.1.map .val, y.2.2.2.2.2.map .val, none])
        (fun r y => ∃ k, k ≤ R.length ∧ r = List.range' k (R.length - k) ∧ y.1 = (List.range k).map row) ?_ ?_ (List.range' 0 R.length) ([], none, none, none, none, none) ⟨0, by omega, rfl, rfl⟩
      · rintro ⟨rs, y9, y10, y11, y12, y13⟩ ⟨k, hk1, hr, e⟩
        simp only at e
        have kk : k = R.length := by
          have := congrArg List.length hr
          simp at this
          omega
        subst kk
        subst e
        have r0 := (List.getElem?_eq_some_iff.mp F.pos).1
        obtain ⟨v, hv, k0, k1, k2, e0, m0, m1, e1, e2⟩ := facts 0 r0
        rw [F.pos] at hv
        cases hv
        have tl := (TI.2.2.1 [] k0).2
        have z0 := at_E (E := E) r0
        have ct := cut_sub e0
        have w0 : S [] = Wd [] := rfl
        have q0 : (List.range R.length)[0]? = some 0 := List.getElem?_range r0
        simp [tabW_get k0, q0, ct]
        refine ⟨by omega, ?_⟩
        let X : List Bool × List Row := mfX T R mv E
        have Xr : X.2.map rowD = (List.range R.length).map (rowD ∘ row) := by
          show ((List.range R.length).map fun k => mfRow T E (R.getD k []) (mvAt mv k) k).map rowD = _
          rw [List.map_map]
          refine List.map_congr_left fun k _ => ?_
          simp only [Function.comp, row, List.getD_eq_getElem?_getD]
        have XD : macD X.1 X.2 = .tuple [S (enc ((T []).take ((T []).length - E 0))), .list ((List.range R.length).map (rowD ∘ row))] := by
          unfold macD
          rw [Xr]
          rfl
        have Xl : X.2.length = R.length := by show ((List.range R.length).map _).length = _; simp
        have XR : rowsIn X.2 := by
          refine ⟨by omega, fun r hr => ?_⟩
          rw [Xl]
          have hr' : r ∈ (List.range R.length).map fun k => mfRow T E (R.getD k []) (mvAt mv k) k := hr
          obtain ⟨k, hk, rfl⟩ := List.mem_map.mp hr'
          obtain ⟨v, _, _, _, _, _, a, b, _⟩ := facts k (List.mem_range.mp hk)
          exact ⟨a, b⟩
        have XW : X.1.length ≤ 1000 ∧ ∀ r ∈ X.2, r.1.1.length ≤ 1000 ∧ r.2.1.1.length ≤ 1000 ∧ r.2.2.length ≤ 1000 := by
          refine ⟨by show ((T []).take _).length ≤ _; rw [List.length_take]; omega, fun r hr => ?_⟩
          have hr' : r ∈ (List.range R.length).map fun k => mfRow T E (R.getD k []) (mvAt mv k) k := hr
          obtain ⟨k, hk, rfl⟩ := List.mem_map.mp hr'
          obtain ⟨v, hv, k0, k1, k2, _⟩ := facts k (List.mem_range.mp hk)
          have gd : R.getD k [] = v := by rw [List.getD_eq_getElem?_getD, hv]; rfl
          rw [gd]
          have a := (TI.2.2.1 v k0).2
          have b := (TI.2.2.1 _ k1).2
          have c := (TI.2.2.1 _ k2).2
          refine ⟨?_, ?_, ?_⟩
          · show (wordB T v false _ _).length ≤ _
            unfold wordB
            rw [List.length_drop, List.length_take]
            omega
          · show (wordB T v true _ _).length ≤ _
            unfold wordB
            rw [List.length_drop, List.length_take]
            omega
          · show ((T v).drop _).length ≤ _
            rw [List.length_drop]
            omega
        rw [← XD]
        refine lc_at Wd (fun v => Wd (runM X.1 X.2 v)) keys (by cases y9 <;> rfl) (fun v hv Q1 Q2 hQ => ?_) (by simp only [keys]; omega) ?_
        · have vl := (km v).mp hv
          simp
          refine ⟨X.1, X.2, v, rfl, macOk_of XR ⟨by omega, fun r hr => ?_⟩ (by omega), by omega, ?_, ?_⟩
          · have := XW.2 r hr
            omega
          · rw [runM_R XR]
            have := run_len2 (B := 1000) XW.1 XW.2 v
            have : 1000 * (v.length + 2) ≤ 1000 * 17 := Nat.mul_le_mul_left _ (by omega)
            omega
          · simp
            exact hQ _ (by cases y9 <;> rfl)
        simp
        have c1 : keys.map (fun v => Wd (runM X.1 X.2 v)) = (keys.map fun v => runM X.1 X.2 v).map Wd := by rw [List.map_map]; rfl
        have c2 : keys.map (fun v => Wd (T v)) = (keys.map T).map Wd := by rw [List.map_map]; rfl
        rw [c1, c2, eqv_list]
        refine ⟨shaped_list _, shaped_list _, ?_⟩
        have iff_ : (keys.map fun v => runM X.1 X.2 v) = keys.map T ↔ ∀ v ∈ keys, runR X.1 X.2 v = T v := by
          rw [List.map_inj_left]
          exact ⟨fun h v hv => by rw [← runM_R XR, h v hv], fun h v hv => by rw [runM_R XR, h v hv]⟩
        by_cases c : ∀ v ∈ keys, runR X.1 X.2 v = T v
        · rw [if_pos c] at hq
          rw [if_pos (by simpa using iff_.mpr c)]
          exact hq
        · rw [if_neg c] at hq
          rw [if_neg (by simpa using fun z => c (iff_.mp z))]
          exact hq
      · rintro s r ⟨rs, y9, y10, y11, y12, y13⟩ ⟨k, hk1, hr, e⟩ M hM
        simp only at e
        obtain ⟨j, hj⟩ : ∃ j, R.length - k = j + 1 := by
          cases c : R.length - k with
          | zero => rw [c] at hr; cases hr
          | succ j => exact ⟨j, rfl⟩
        rw [hj, List.range'_succ] at hr
        obtain ⟨rfl, rfl⟩ := List.cons.inj hr
        obtain ⟨v, hv, k0, k1, k2, e0, m0, m1, e1, e2⟩ := facts s (by omega)
        have gd : R[s]?.getD [] = v := by rw [hv]; rfl
        rw [gd]
        simp
        have z0 := at_E (E := E) m0
        have z1 := at_E (E := E) m1
        have a0 : atI (L (mk [76, 82])) (0 : Int) = some (sg false) := rfl
        have a1 : atI (L (mk [76, 82])) (1 : Int) = some (sg true) := rfl
        refine lc_at (fun k : Nat => PyData.int k) (fun x => if x = 1 then mvD (wordB T v true (E s) (E (mvAt mv s).2), (mvAt mv s).2) else mvD (wordB T v false (E s) (E (mvAt mv s).1), (mvAt mv s).1)) (List.range 2) rfl (fun x hx Q1 Q2 hQ => ?_) (by simp) ?_
        · have hx2 : x = 0 ∨ x = 1 := by have := List.mem_range.mp hx; omega
          rcases hx2 with rfl | rfl
          · simp [a0, pairD2, z0]
            refine ⟨T, keys, v, false, E s, E (mvAt mv s).1, rfl, k0, k1, TI.2.2.1, e0, e1, ?_⟩
            simp
            exact hQ _ rfl
          · simp [a1, pairD2, z1]
            refine ⟨T, keys, v, true, E s, E (mvAt mv s).2, rfl, k0, k2, TI.2.2.1, e0, e2, ?_⟩
            simp
            exact hQ _ rfl
        have r2 : List.range 2 = [0, 1] := rfl
        have tl := (TI.2.2.1 v k0).2
        have cf : cutD (enc (T v)) (some (((T v).length : Int) - (E s : Int))) none = enc ((T v).drop ((T v).length - E s)) := by
          rw [show ((T v).length : Int) - (E s : Int) = (((T v).length - E s : Nat) : Int) by omega, cut_fromN, enc_drop]
        rw [r2]
        simp [tabW_get k0, cf]
        have lr : rs.length ≤ R.length := by rw [e]; simp; omega
        refine ⟨by omega, by omega, ?_⟩
        have rr : rowD (row s) = .tuple [mvD (wordB T v false (E s) (E (mvAt mv s).1), (mvAt mv s).1), mvD (wordB T v true (E s) (E (mvAt mv s).2), (mvAt mv s).2), S (enc ((T v).drop ((T v).length - E s)))] := by
          simp only [row, gd]
          rfl
        rw [← rr]
        have fin := hM (rs ++ [row s], some (Wd v), some (pairD2 (mvAt mv s)), some (.int (E s : Nat)), some (mvD (wordB T v false (E s) (E (mvAt mv s).1), (mvAt mv s).1)), some (mvD (wordB T v true (E s) (E (mvAt mv s).2), (mvAt mv s).2))) ⟨s + 1, by omega, by congr 1; omega, by simp only; rw [e, List.range_succ, List.map_append]; rfl⟩
        simpa using fin
end DL
namespace DL
--plain
open Sy
/-! ### the first road that parts two machines -/
theorem nth_all (v : List Bool) : ∃ i, nth i = v := by
  have := (roads_mem v.length v).mpr (Nat.le_refl _)
  unfold roadsTo at this
  obtain ⟨i, _, e⟩ := List.mem_map.mp this
  exact ⟨i, e⟩
theorem nth_half (k : Nat) : k = 0 ∨ ∃ j b, k = 2 * j + 1 + (if b then 1 else 0) ∧ nth k = nth j ++ [b] := by
  by_cases h : k = 0
  · exact .inl h
  · refine .inr ?_
    rcases Nat.mod_two_eq_zero_or_one k with e | e
    · obtain ⟨j, rfl⟩ : ∃ j, k = 2 * j + 2 := ⟨(k - 2) / 2, by omega⟩
      exact ⟨j, true, rfl, nth2 j⟩
    · obtain ⟨j, rfl⟩ : ∃ j, k = 2 * j + 1 := ⟨(k - 1) / 2, by omega⟩
      exact ⟨j, false, rfl, nth1 j⟩
theorem nth_pre : ∀ (k i : Nat) (x : List Bool), nth k = nth i ++ x → i ≤ k := by
  intro k
  induction k using Nat.strongRecOn with
  | ind k ih =>
    intro i x h
    rcases List.eq_nil_or_concat x with rfl | ⟨y, b, rfl⟩
    · rw [List.append_nil] at h
      exact Nat.le_of_eq (nth_inj _ _ h).symm
    · rcases nth_half k with rfl | ⟨j, c, e, hj⟩
      · rw [nth0] at h
        simp at h
      · rw [hj, List.concat_eq_append, ← List.append_assoc] at h
        have := ih j (by omega) i y (List.append_inj' h rfl).1
        omega
def surp (u v : List Bool) : Option (List Bool × List Bool) := if v.isPrefixOf u = true then some (u.drop v.length, []) else if u.isPrefixOf v = true then some ([], v.drop u.length) else none
theorem isPre_app (p u v : List Bool) : (p ++ u).isPrefixOf (p ++ v) = u.isPrefixOf v := by
  induction p with
  | nil => rfl
  | cons x p ih => simp [List.isPrefixOf, ih]
theorem surp_pre (p u v : List Bool) : surp (p ++ u) (p ++ v) = surp u v := by
  unfold surp
  rw [isPre_app, isPre_app]
  have a : ∀ w : List Bool, (p ++ w).length = p.length + w.length := fun w => List.length_append ..
  have b : ∀ w z : List Bool, (p ++ w).drop (p.length + z.length) = w.drop z.length := fun w z => by rw [List.drop_append]; simp
  rw [a, a, b, b]
theorem surp_some {u v a b : List Bool} (h : surp u v = some (a, b)) : ∃ p, u = p ++ a ∧ v = p ++ b := by
  unfold surp at h
  split at h
  · rename_i c
    cases h
    obtain ⟨z, rfl⟩ := List.isPrefixOf_iff_prefix.mp c
    exact ⟨v, by simp, by simp⟩
  · split at h
    · rename_i c
      cases h
      obtain ⟨z, rfl⟩ := List.isPrefixOf_iff_prefix.mp c
      exact ⟨u, by simp, by simp⟩
    · cases h
theorem surp_none {u v : List Bool} (h : surp u v = none) (x y : List Bool) : u ++ x ≠ v ++ y := by
  unfold surp at h
  split at h
  · cases h
  · rename_i c1
    split at h
    · cases h
    · rename_i c2
      intro e
      rcases List.append_eq_append_iff.mp e with ⟨z, e1, _⟩ | ⟨z, e1, _⟩
      · exact c2 (List.isPrefixOf_iff_prefix.mpr ⟨z, e1.symm⟩)
      · exact c1 (List.isPrefixOf_iff_prefix.mpr ⟨z, e1.symm⟩)
section
variable (A B : Sy) (f1 f2 : List Bool) (m n : Nat)
def surAt (r : List Bool) : Option (List Bool × List Bool) := surp (f1 ++ A.out 0 r) (f2 ++ B.out 0 r)
def pairAt (r : List Bool) : Nat × Nat := (A.st 0 r, B.st 0 r)
abbrev SameAt (r : List Bool) : Prop := f1 ++ A.run 0 r = f2 ++ B.run 0 r
/-- where the search stands: the roads is (by their numbers), of which p were looked at -/
structure FU (is : List Nat) (p : Nat) (seen : List (Nat × Nat)) : Prop where
  inc : is.Pairwise (· < ·)
  le : p ≤ is.length
  bnd : ∀ j ∈ is, ∀ i ∈ is.drop p, j < 2 * i + 1
  eq : ∀ i ∈ is.take p, SameAt A B f1 f2 (nth i)
  seenI : ∀ z ∈ seen, ∃ i ∈ is.take p, pairAt A B (nth i) = z
  low : ∀ k, ¬ SameAt A B f1 f2 (nth k) → (∀ j, j < k → SameAt A B f1 f2 (nth j)) → ∃ i ∈ is.drop p, ∃ x, nth k = nth i ++ x
  nod : seen.Nodup
  inr : ∀ z ∈ seen, z.1 < m ∧ z.2 < n
  few : is.length ≤ 1 + 2 * seen.length
end
section
variable {A B : Sy} {f1 f2 : List Bool} {m n : Nat} {is : List Nat} {p i : Nat} {seen : List (Nat × Nat)}
theorem run_end (S : Sy) (w : List Bool) : S.run 0 w = S.out 0 w ++ S.e (S.st 0 w) := by
  have := S.run_out w [] 0
  rw [List.append_nil] at this
  exact this
theorem surAt_none {r : List Bool} (h : surAt A B f1 f2 r = none) : ¬ SameAt A B f1 f2 r := by
  intro e
  unfold SameAt at e
  rw [run_end A, run_end B, ← List.append_assoc, ← List.append_assoc] at e
  exact surp_none h _ _ e
theorem surAt_some {r a b : List Bool} (h : surAt A B f1 f2 r = some (a, b)) : SameAt A B f1 f2 r ↔ a ++ A.e (A.st 0 r) = b ++ B.e (B.st 0 r) := by
  obtain ⟨p, e1, e2⟩ := surp_some h
  unfold SameAt
  rw [run_end A, run_end B, ← List.append_assoc, ← List.append_assoc, e1, e2, List.append_assoc, List.append_assoc]
  exact ⟨List.append_cancel_left, fun h => by rw [h]⟩
theorem surAt_step {r a b : List Bool} (h : surAt A B f1 f2 r = some (a, b)) (t : Bool) : surAt A B f1 f2 (r ++ [t]) = surp (a ++ A.w (A.st 0 r) t) (b ++ B.w (B.st 0 r) t) := by
  obtain ⟨p, e1, e2⟩ := surp_some h
  unfold surAt
  rw [out_app, out_app, ← List.append_assoc, ← List.append_assoc, e1, e2, List.append_assoc, List.append_assoc, surp_pre]
  simp [out]
theorem pairAt_step (r : List Bool) (t : Bool) : pairAt A B (r ++ [t]) = (A.g (A.st 0 r) t, B.g (B.st 0 r) t) := by
  unfold pairAt
  rw [st_app, st_app]
  rfl
theorem FU.init (m n : Nat) : FU A B f1 f2 m n [0] 0 [] :=
  ⟨by simp, by simp, by simp, by simp, by simp, fun k _ _ => ⟨0, by simp, nth k, by rw [nth0]; rfl⟩, by simp, by simp, by simp⟩
theorem FU.here (h : FU A B f1 f2 m n is p seen) (hi : is[p]? = some i) : is.drop p = i :: is.drop (p + 1) ∧ is.take (p + 1) = is.take p ++ [i] := by
  have l := (List.getElem?_eq_some_iff.mp hi)
  obtain ⟨l1, rfl⟩ := l
  exact ⟨List.drop_eq_getElem_cons l1, by rw [List.take_succ, hi]; rfl⟩
theorem FU.later (h : FU A B f1 f2 m n is p seen) (hi : is[p]? = some i) : ∀ j ∈ is.drop (p + 1), i < j := by
  obtain ⟨e1, _⟩ := h.here hi
  have := h.inc
  have q : (is.drop p).Pairwise (· < ·) := this.sublist (List.drop_sublist _ _)
  rw [e1] at q
  exact (List.pairwise_cons.mp q).1
theorem FU.found (h : FU A B f1 f2 m n is p seen) (hi : is[p]? = some i) (hu : ¬ SameAt A B f1 f2 (nth i)) : ∀ j, j < i → SameAt A B f1 f2 (nth j) := by
  have mn : ∀ i, ¬ SameAt A B f1 f2 (nth i) → ∃ k, k ≤ i ∧ ¬ SameAt A B f1 f2 (nth k) ∧ ∀ j, j < k → SameAt A B f1 f2 (nth j) := by
    intro i
    induction i using Nat.strongRecOn with
    | ind i ih =>
      intro hu
      by_cases c : ∀ j, j < i → SameAt A B f1 f2 (nth j)
      · exact ⟨i, Nat.le_refl _, hu, c⟩
      · obtain ⟨j, hj⟩ := Classical.not_forall.mp c
        obtain ⟨lj, hj⟩ := Classical.not_imp.mp hj
        obtain ⟨k, k1, k2⟩ := ih j lj hj
        exact ⟨k, by omega, k2⟩
  obtain ⟨k, k1, k2, k3⟩ := mn i hu
  obtain ⟨j, hj, x, e⟩ := h.low k k2 k3
  have := nth_pre k j x e
  rw [(h.here hi).1] at hj
  rcases List.mem_cons.mp hj with rfl | hj
  · intro j' l
    exact k3 j' (by omega)
  · have := h.later hi j hj
    omega
theorem FU.stop (h : FU A B f1 f2 m n is p seen) (hp : is[p]? = none) (v : List Bool) : SameAt A B f1 f2 v := by
  have mn : ∀ i, SameAt A B f1 f2 (nth i) := by
    intro i
    induction i using Nat.strongRecOn with
    | ind i ih =>
      refine Classical.byContradiction fun c => ?_
      obtain ⟨j, hj, _⟩ := h.low i c ih
      rw [List.drop_eq_nil_of_le (List.getElem?_eq_none_iff.mp hp)] at hj
      cases hj
  obtain ⟨i, rfl⟩ := nth_all v
  exact mn i
theorem FU.skip (h : FU A B f1 f2 m n is p seen) (hi : is[p]? = some i) (hs : SameAt A B f1 f2 (nth i)) (hm : pairAt A B (nth i) ∈ seen) : FU A B f1 f2 m n is (p + 1) seen := by
  obtain ⟨e1, e2⟩ := h.here hi
  refine ⟨h.inc, (List.getElem?_eq_some_iff.mp hi).1, fun j hj k hk => h.bnd j hj k (by rw [e1]; exact List.mem_cons_of_mem _ hk), fun k hk => ?_, fun z hz => ?_, fun k hk hl => ?_, h.nod, h.inr, h.few⟩
  · rw [e2] at hk
    rcases List.mem_append.mp hk with hk | hk
    · exact h.eq k hk
    · rw [List.mem_singleton.mp hk]
      exact hs
  · obtain ⟨k, hk, e⟩ := h.seenI z hz
    exact ⟨k, by rw [e2]; exact List.mem_append_left _ hk, e⟩
  · obtain ⟨j, hj, x, e⟩ := h.low k hk hl
    rw [e1] at hj
    rcases List.mem_cons.mp hj with rfl | hj
    · exfalso
      obtain ⟨u, hu, eu⟩ := h.seenI _ hm
      have lu : u < j := by
        have q := h.inc
        rw [← List.take_append_drop p is] at q
        exact (List.pairwise_append.mp q).2.2 u hu j (by rw [e1]; simp)
      obtain ⟨v, ev⟩ := nth_all (nth u ++ x)
      have su : A.st 0 (nth j) = A.st 0 (nth u) ∧ B.st 0 (nth j) = B.st 0 (nth u) := ⟨(congrArg Prod.fst eu).symm, (congrArg Prod.snd eu).symm⟩
      have lv : v < k := by
        -- the number of a road behind a smaller one is smaller
        have key : ∀ (x : List Bool) (u j v k : Nat), u < j → nth v = nth u ++ x → nth k = nth j ++ x → v < k := by
          intro x
          induction x with
          | nil =>
            intro u j v k l a b
            rw [List.append_nil] at a b
            rw [nth_inj _ _ a, nth_inj _ _ b]
            exact l
          | cons t x ih =>
            intro u j v k l a b
            have st : ∀ u, nth u ++ t :: x = nth (2 * u + 1 + (if t then 1 else 0)) ++ x := fun u => by
              cases t
              · rw [show 2 * u + 1 + (if false = true then 1 else 0) = 2 * u + 1 from rfl, nth1, List.append_assoc]; rfl
              · rw [show 2 * u + 1 + (if true = true then 1 else 0) = 2 * u + 2 from rfl, nth2, List.append_assoc]; rfl
            rw [st] at a b
            exact ih _ _ v k (by omega) a b
        exact key x u j v k lu ev e
      have sv := hl v lv
      rw [ev] at sv
      have := same_on su.1 su.2 hs (h.eq u hu) sv
      rw [← e] at this
      exact hk this
    · exact ⟨j, hj, x, e⟩
theorem FU.go (h : FU A B f1 f2 m n is p seen) (hi : is[p]? = some i) (hs : SameAt A B f1 f2 (nth i)) (hm : pairAt A B (nth i) ∉ seen) (h1 : A.st 0 (nth i) < m) (h2 : B.st 0 (nth i) < n) :
    FU A B f1 f2 m n (is ++ [2 * i + 1, 2 * i + 2]) (p + 1) (seen ++ [pairAt A B (nth i)]) := by
  obtain ⟨e1, e2⟩ := h.here hi
  have lp := (List.getElem?_eq_some_iff.mp hi).1
  have d1 : (is ++ [2 * i + 1, 2 * i + 2]).drop (p + 1) = is.drop (p + 1) ++ [2 * i + 1, 2 * i + 2] := List.drop_append_of_le_length (by omega)
  have t1 : (is ++ [2 * i + 1, 2 * i + 2]).take (p + 1) = is.take (p + 1) := List.take_append_of_le_length (by omega)
  have bb : ∀ j ∈ is, j < 2 * i + 1 := fun j hj => h.bnd j hj i (by rw [e1]; simp)
  refine ⟨?_, by rw [List.length_append]; simp; omega, fun j hj k hk => ?_, fun k hk => ?_, fun z hz => ?_, fun k hk hl => ?_, ?_, fun z hz => ?_, ?_⟩
  · refine List.pairwise_append.mpr ⟨h.inc, by simp, fun a ha b hb => ?_⟩
    have := bb a ha
    simp at hb
    omega
  · rw [d1] at hk
    have ki : i < k := by
      rcases List.mem_append.mp hk with hk | hk
      · exact h.later hi k hk
      · simp at hk
        omega
    rcases List.mem_append.mp hj with hj | hj
    · have := bb j hj
      omega
    · simp at hj
      omega
  · rw [t1, e2] at hk
    rcases List.mem_append.mp hk with hk | hk
    · exact h.eq k hk
    · rw [List.mem_singleton.mp hk]
      exact hs
  · rw [t1, e2]
    rcases List.mem_append.mp hz with hz | hz
    · obtain ⟨k, hk, e⟩ := h.seenI z hz
      exact ⟨k, List.mem_append_left _ hk, e⟩
    · rw [List.mem_singleton.mp hz]
      exact ⟨i, by simp, rfl⟩
  · rw [d1]
    obtain ⟨j, hj, x, e⟩ := h.low k hk hl
    rw [e1] at hj
    rcases List.mem_cons.mp hj with rfl | hj
    · cases x with
      | nil =>
        rw [List.append_nil] at e
        rw [e] at hk
        exact absurd hs hk
      | cons t x =>
        cases t
        · exact ⟨2 * j + 1, by simp, x, by rw [nth1, e, List.append_assoc]; rfl⟩
        · exact ⟨2 * j + 2, by simp, x, by rw [nth2, e, List.append_assoc]; rfl⟩
    · exact ⟨j, List.mem_append_left _ hj, x, e⟩
  · refine List.nodup_append.mpr ⟨h.nod, by simp, fun a ha b hb => ?_⟩
    rw [List.mem_singleton.mp hb]
    exact fun e => hm (e ▸ ha)
  · rcases List.mem_append.mp hz with hz | hz
    · exact h.inr z hz
    · rw [List.mem_singleton.mp hz]
      exact ⟨h1, h2⟩
  · have := h.few
    simp only [List.length_append, List.length_cons, List.length_nil]
    omega
/-- how many pairs there are -/
theorem FU.short (h : FU A B f1 f2 m n is p seen) : seen.length ≤ m * n := by
  have := nodup_len h.nod (m := (List.range m).flatMap fun a => (List.range n).map fun b => (a, b)) fun z hz => by
    have := h.inr z hz
    exact List.mem_flatMap.mpr ⟨z.1, List.mem_range.mpr this.1, List.mem_map.mpr ⟨z.2, List.mem_range.mpr this.2, rfl⟩⟩
  have e : ∀ l : List Nat, (l.flatMap fun a => (List.range n).map fun b => (a, b)).length = l.length * n := fun l => by
    induction l with
    | nil => simp
    | cons a l ih => rw [List.flatMap_cons, List.length_append, ih, List.length_map, List.length_range, List.length_cons, Nat.succ_mul]; omega
  rw [e, List.length_range] at this
  exact this
end
end DL
namespace DL
open PySem PySem.Spec PyProof.Rows L2
def F_table_of : DF := fun ds q => ∃ (f : List Bool) (rows : List Row) (n : Nat), ds = [macD f rows, .int n] ∧ macOk f rows ∧ n ≤ 20 ∧ (∀ w : List Bool, w.length ≤ n → (runM f rows w).length ≤ 16777216) ∧ q (.list ((roadsTo n).map fun w => Wd (runM f rows w))) .none
theorem pl_table_of : PL_table_of F_table_of F_check_machine F_check_number F_roads_to F_run := by
  intro ds q a _ h
  obtain ⟨f, rows, n, rfl, ok, hn, hl, hq⟩ := h
  have pw : 2 ^ (n + 1) ≤ 2 ^ 21 := Nat.pow_le_pow_right (by decide) (by omega)
  simp [t_table_of]
  refine ⟨f, rows, rfl, ok, ?_⟩
  simp
  refine ⟨(n : Nat), 0, rfl, by omega, ?_⟩
  simp
  refine ⟨n, rfl, hn, ?_⟩
  simp [plainC, plain1]
  refine lc_at Wd (fun w => Wd (runM f rows w)) (roadsTo n) rfl ?_ (by rw [roads_many]; omega) ?_
  · intro w hw Q1 Q2 hQ
    have lw := roads_len hw
    simp [wipeD]
    refine ⟨f, rows, w, rfl, ok, by omega, hl w lw, ?_⟩
    simp
    exact hQ _ rfl
  · exact hq
end DL
namespace DL
open PySem PySem.Spec PyProof.Rows L2
/-! ### the law's draws: any ones -/
def purD (g s c : Int) : PyData := .list [.int g, .int s, .int c]
/-- a purse out of which at most n things were drawn -/
def PuOk (n : Nat) (d : PyData) : Prop := ∃ g s c : Int, d = purD g s c ∧ 0 ≤ g ∧ 0 ≤ s ∧ s < 1000000000000000000000007 ∧ 0 ≤ c ∧ c ≤ n
theorem PuOk.mono {n m : Nat} {d : PyData} (h : PuOk n d) (l : n ≤ m) : PuOk m d := by
  obtain ⟨g, s, c, rfl, h1, h2, h3, h4, h5⟩ := h
  exact ⟨g, s, c, rfl, h1, h2, h3, h4, by omega⟩
def F_law_coin : DF := fun ds q => ∃ (d : PyData) (n : Nat) (many : Nat), ds = [d, .int many] ∧ PuOk n d ∧ n < 1000000000 ∧ 0 < many ∧ many < 1000000000 ∧ ∀ (k : Nat) (d' : PyData), k < many → PuOk (n + 1) d' → q (.int k) d'
theorem log2_small {n k : Nat} (h : n < 2 ^ (k + 1)) : n.log2 ≤ k := by
  have := PySem.Flt.log2_lt_of (n := n) (k := k + 1) (by omega) h
  omega
theorem pl_law_coin : PL_law_coin F_law_coin := by
  intro ds q a _ h
  obtain ⟨d, n, many, rfl, ⟨g, s, c, rfl, h1, h2, h3, h4, h5⟩, hn, hm, hm2, hq⟩ := h
  refine seq_mid [some (.own a (purD g s c)), some (.val (.int many)), none, none] (fun N hN => if_of (decide (0 < g)) (fun K hK => ⟨.int g, rfl, trivial, hK⟩) (fun z => ?_) fun z => ?_) ?_
  · have hmz : (0 : Int) < (many : Nat) := by omega
    have hdiv : CDivW g (many : Nat) := ⟨hmz, Nat.lt_of_le_of_lt (log2_small (k := 30) (by simp only [Int.natAbs_natCast]; omega)) (by decide)⟩
    refine ⟨.int g, rfl, hmz, .int g, rfl, hdiv, 0, rfl, ?_⟩
    have e1 : ((g % (many : Nat)).toNat : Int) = g % (many : Nat) := Int.toNat_of_nonneg (Int.emod_nonneg _ (by omega))
    have lt1 : g % (many : Nat) < many := Int.emod_lt_of_pos _ hmz
    have := hq (g % (many : Nat)).toNat (purD (g / (many : Nat)) s c) (by omega) ⟨_, s, c, rfl, Int.ediv_nonneg h1 (by omega), h2, h3, h4, by omega⟩
    rw [e1] at this
    exact ⟨_, rfl, this⟩
  · exact hN
  · refine seq_mid [some (.own a (purD g s (c + 1))), some (.val (.int many)), none, none] (fun N hN => ⟨.int c, rfl, 2, rfl, hN⟩) ?_
    have pw : ∀ (x : Int) (e : Int), 0 ≤ e → e ≤ 3 → 0 ≤ x → x < 2 ^ 200 → CPowW x e := fun x e he he3 h0 h1 => by
      refine ⟨he, ?_⟩
      have : x.natAbs.log2 ≤ 200 := log2_small (k := 200) (by
        have : (x.natAbs : Int) < (2 : Int) ^ 201 := by
          rw [Int.natAbs_of_nonneg h0]
          refine Int.lt_trans h1 (by decide)
        exact_mod_cast this)
      have h3 : ((x.natAbs.log2 + 1 : Nat) : Int) ≤ 201 := by omega
      have h4 : ((x.natAbs.log2 + 1 : Nat) : Int) * e ≤ 201 * 3 := Int.mul_le_mul h3 he3 he (by decide)
      omega
    have m1 : (0 : Int) < 10 ^ (25 : Int).toNat + 13 := by decide
    have m2 : (0 : Int) < 10 ^ (24 : Int).toNat + 7 := by decide
    have b1 : (0 : Int) ≤ s + 2038074743 * (c + 1) := by omega
    have b2 : s + 2038074743 * (c + 1) < 2 ^ 200 := Int.lt_trans (show s + 2038074743 * (c + 1) < 10000000000000000000000000 by omega) (by decide)
    have st1 := Int.emod_nonneg ((s + 2038074743 * (c + 1)) ^ (3 : Int).toNat) (Int.ne_of_gt m1)
    have st2 := Int.emod_lt_of_pos ((s + 2038074743 * (c + 1)) ^ (3 : Int).toNat) m1
    refine seq_mid [some (.own a (purD g s (c + 1))), some (.val (.int many)), some (.val (.int ((s + 2038074743 * (c + 1)) ^ (3 : Int).toNat % (10 ^ (25 : Int).toNat + 13)))), none] (fun N hN => ⟨.int s, rfl, .int (c + 1), rfl, .inl (by decide), pw _ 3 (by decide) (by decide) b1 b2, ⟨by decide, by decide +kernel⟩, m1, hN⟩) ?_
    generalize (s + 2038074743 * (c + 1)) ^ (3 : Int).toNat % (10 ^ (25 : Int).toNat + 13) = t1 at st1 st2 ⊢
    have st2' : t1 < 10000000000000000000000013 := by
      have e : (10 : Int) ^ (25 : Int).toNat + 13 = 10000000000000000000000013 := by decide
      rw [e] at st2
      exact st2
    have b3 : (0 : Int) ≤ t1 + 982451653 * (c + 1) := by omega
    have b4 : t1 + 982451653 * (c + 1) < 2 ^ 200 := Int.lt_trans (show t1 + 982451653 * (c + 1) < 100000000000000000000000000 by omega) (by decide)
    have st3 := Int.emod_nonneg ((t1 + 982451653 * (c + 1)) ^ (2 : Int).toNat) (Int.ne_of_gt m2)
    refine seq_mid [some (.own a (purD g s (c + 1))), some (.val (.int many)), some (.val (.int ((t1 + 982451653 * (c + 1)) ^ (2 : Int).toNat % (10 ^ (24 : Int).toNat + 7)))), none] (fun N hN => ⟨.int (c + 1), rfl, .inl (by decide), pw _ 2 (by decide) (by decide) b3 b4, ⟨by decide, by decide +kernel⟩, m2, hN⟩) ?_
    generalize (t1 + 982451653 * (c + 1)) ^ (2 : Int).toNat % (10 ^ (24 : Int).toNat + 7) = t2 at st3 ⊢
    have hmz : (0 : Int) < (many : Nat) := by omega
    refine ⟨⟨by decide, by decide +kernel⟩, hmz, ?_⟩
    have e1 : ((t2 / 1024 % (many : Nat)).toNat : Int) = t2 / 1024 % (many : Nat) := Int.toNat_of_nonneg (Int.emod_nonneg _ (by omega))
    have lt1 : t2 / 1024 % (many : Nat) < many := Int.emod_lt_of_pos _ hmz
    have := hq (t2 / 1024 % (many : Nat)).toNat (purD g s (c + 1)) (by omega) ⟨_, s, c + 1, rfl, h1, h2, h3, by omega, by omega⟩
    rw [e1] at this
    exact ⟨_, rfl, this⟩
def F_law_bk_way : DF := fun ds q => ∃ (d : PyData) (n top : Nat), ds = [d, .int top] ∧ PuOk n d ∧ n + top + 2 < 1000000000 ∧ top < 1000000 ∧ ∀ (w : List Bool) (d' : PyData), w.length ≤ top → PuOk (n + top + 1) d' → q (Wd w) d'
theorem PuOk.pur {n : Nat} {d : PyData} (h : PuOk n d) : ∃ l, d = .list l := by
  obtain ⟨g, s, c, rfl, _⟩ := h
  exact ⟨_, rfl⟩
theorem sg_at {k : Nat} (h : k < 2) : atI (L (mk [76, 82])) ((k : Nat) : Int) = some (sg (decide (k = 1))) := by
  match k, h with
  | 0, _ => rfl
  | 1, _ => rfl
theorem pl_law_bk_way : PL_law_bk_way F_law_bk_way F_law_coin := by
  intro ds q a _ h
  obtain ⟨d, n, top, rfl, hd, hn, ht, hq⟩ := h
  refine ⟨rfl, d, n, top + 1, rfl, hd, by omega, by omega, by omega, fun k d' hk hd' => ?_⟩
  refine ⟨by show (-4611686018427387904 : Int) ≤ (k : Nat); omega, by show ((k : Nat) : Int) < 4611686018427387904; omega, ?_⟩
  refine forGo_inv (fun r ρ => ∃ (i : Nat) (w : List Bool) (d2 : PyData) (x3 : Option Cell), r.length + i = k ∧ w.length = i ∧ PuOk (n + 1 + i) d2 ∧ ρ = [some (.own a d2), some (.val (.int top)), some (.val (Wd w)), x3]) (fun ρ hI => ?_) (fun z r ρ N hN hI => ?_) _ _ ⟨0, [], d', none, by simp, rfl, hd', rfl⟩
  · obtain ⟨i, w, d2, x3, e1, e2, hp, rfl⟩ := hI
    refine ⟨d2, rfl, hq w d2 ?_ (hp.mono ?_)⟩
    · simp at e1; omega
    · simp at e1; omega
  · obtain ⟨i, w, d2, x3, e1, e2, hp, rfl⟩ := hI
    rw [List.length_cons] at e1
    refine ⟨rfl, d2, n + 1 + i, 2, rfl, hp, by omega, by decide, by decide, fun j d3 hj hd3 => ?_⟩
    refine ⟨by decide, _, sg_at hj, ?_, ?_⟩
    · show (enc w).length + 1 ≤ _
      rw [enc_len]; omega
    · refine hN _ ⟨i + 1, w ++ [decide (j = 1)], d3, some (.val z), by omega, by simp [e2], hd3, ?_⟩
      have : S (L (mk (enc w)) ++ L (mk [sg (decide (j = 1))])) = Wd (w ++ [decide (j = 1)]) := by
        rw [L_mk, L_mk]
        unfold Wd
        rw [enc_app]
        rfl
      rw [← this]
      rfl
end DL
namespace DL
open PySem PySem.Spec PyProof.Rows L2
/-- a drawn machine: many states, words of at most top turns -/
def shOk (many top : Nat) (f : List Bool) (rows : List Row) : Prop := f.length ≤ top ∧ rows.length = many ∧ ∀ r ∈ rows, r.1.1.length ≤ top ∧ r.1.2 < many ∧ r.2.1.1.length ≤ top ∧ r.2.1.2 < many ∧ r.2.2.length ≤ top
def F_law_bk_shape : DF := fun ds q => ∃ (d : PyData) (n many top : Nat), ds = [d, .int many, .int top] ∧ PuOk n d ∧ n + (3 * top + 5) * (many + 1) + 5 < 1000000000 ∧ top < 1000000 ∧ many < 1000000 ∧ 0 < many ∧ ∀ (f : List Bool) (rows : List Row) (d' : PyData), shOk many top f rows → PuOk (n + (3 * top + 5) * (many + 1)) d' → q (macD f rows) d'
theorem pl_law_bk_shape : PL_law_bk_shape F_law_bk_shape F_law_bk_way F_law_coin := by
  intro ds q a _ h
  obtain ⟨d, n, many, top, rfl, hd, hn, ht, hm, hm0, hq⟩ := h
  refine ⟨Nat.zero_le _, fun p => ?_⟩
  dsimp only
  refine ⟨by show (-4611686018427387904 : Int) ≤ (many : Nat); omega, by show ((many : Nat) : Int) < 4611686018427387904; omega, ?_⟩
  refine forGo_inv (fun r ρ => ∃ (i : Nat) (rows : List Row) (d2 : PyData) (x4 x5 x6 : Option Cell), r.length + i = many ∧ rows.length = i ∧ (∀ r ∈ rows, r.1.1.length ≤ top ∧ r.1.2 < many ∧ r.2.1.1.length ≤ top ∧ r.2.1.2 < many ∧ r.2.2.length ≤ top) ∧ PuOk (n + (3 * top + 5) * i) d2 ∧
    ρ = [some (.own a d2), some (.val (.int many)), some (.val (.int top)), some (.own p (.list (rows.map rowD))), x4, x5, x6]) (fun ρ hI => ?_) (fun z r ρ N hN hI => ?_) _ _ ⟨0, [], d, none, none, none, by simp, rfl, (fun _ h => nomatch h), hd, rfl⟩
  · obtain ⟨i, rows, d2, x4, x5, x6, e1, e2, hr, hp, rfl⟩ := hI
    have ei : i = many := by simpa using e1
    subst ei
    have es : (3 * top + 5) * (i + 1) = (3 * top + 5) * i + (3 * top + 5) := by rw [Nat.mul_succ]
    refine ⟨rfl, d2, n + (3 * top + 5) * i, top, rfl, hp, by omega, by omega, fun f d3 hf hd3 => ?_⟩
    refine ⟨Nat.le_of_ble_eq_true rfl, d3, rfl, hq f rows d3 ⟨hf, e2, hr⟩ (hd3.mono ?_)⟩
    omega
  · obtain ⟨i, rows, d2, x4, x5, x6, e1, e2, hr, hp, rfl⟩ := hI
    rw [List.length_cons] at e1
    have es : (3 * top + 5) * (many + 1) = (3 * top + 5) * many + (3 * top + 5) := by rw [Nat.mul_succ]
    have ei : (3 * top + 5) * (i + 1) = (3 * top + 5) * i + (3 * top + 5) := by rw [Nat.mul_succ]
    have le : (3 * top + 5) * (i + 1) ≤ (3 * top + 5) * many := Nat.mul_le_mul_left _ (by omega)
    refine ⟨rfl, d2, _, top, rfl, hp, by omega, by omega, fun w1 d3 hw1 hd3 => ?_⟩
    refine ⟨rfl, d3, _, many, rfl, hd3, by omega, hm0, by omega, fun k1 d4 hk1 hd4 => ⟨Nat.le_of_ble_eq_true rfl, ?_⟩⟩
    refine ⟨rfl, d4, _, top, rfl, hd4, by omega, by omega, fun w2 d5 hw2 hd5 => ?_⟩
    refine ⟨rfl, d5, _, many, rfl, hd5, by omega, hm0, by omega, fun k2 d6 hk2 hd6 => ⟨Nat.le_of_ble_eq_true rfl, ?_⟩⟩
    refine ⟨rfl, d6, _, top, rfl, hd6, by omega, by omega, fun w3 d7 hw3 hd7 => ⟨Nat.le_of_ble_eq_true rfl, ?_, ?_⟩⟩
    · rw [List.length_map]; omega
    · refine hN _ ⟨i + 1, rows ++ [((w1, k1), (w2, k2), w3)], d7, some (.val z), some (.val (mvD (w1, k1))), some (.val (mvD (w2, k2))), by omega, by simp [e2], fun x hx => ?_, hd7.mono (by omega), ?_⟩
      · rcases List.mem_append.mp hx with hx | hx
        · exact hr x hx
        · rw [List.mem_singleton.mp hx]
          exact ⟨hw1, hk1, hw2, hk2, hw3⟩
      · rw [List.map_append]
        rfl
/-- what a drawn machine writes, and where a road ends -/
def F_law_bk_walk : DF := fun ds q => ∃ (f : List Bool) (rows : List Row) (w : List Bool), ds = [macD f rows, Wd w] ∧ (∀ x ∈ rows, rowOk rows.length x) ∧ 0 < rows.length ∧ w.length ≤ 16777216 ∧ (f ++ (walk rows 0 w).1).length ≤ 16777216 ∧ q (.tuple [Wd (f ++ (walk rows 0 w).1), .int (walk rows 0 w).2]) .none
theorem pl_law_bk_walk : PL_law_bk_walk F_law_bk_walk := by
  intro ds q a _ h
  obtain ⟨f, rows, w, rfl, ok, hs, hw, ht, hq⟩ := h
  refine ⟨_, rfl, ?_⟩
  refine ⟨_, rfl, ?_⟩
  refine forGo_inv (fun r ρ => ∃ (w2 : List Bool) (s2 : Nat) (g : List Bool) (x2 x5 : Option Cell), r = w2.map (fun b => S [sg b]) ∧ s2 < rows.length ∧ g ++ (walk rows s2 w2).1 = f ++ (walk rows 0 w).1 ∧ (walk rows s2 w2).2 = (walk rows 0 w).2 ∧
    ρ = [some (.val (macD f rows)), some (.val (Wd w)), x2, some (.val (Wd g)), some (.val (.int s2)), x5]) (fun ρ hI => ?_) (fun d r ρ N hN hI => ?_) _ _ ?_
  · obtain ⟨w2, s2, g, x2, x5, e, l3, e2, e3, rfl⟩ := hI
    obtain rfl : w2 = [] := by
      cases w2 with
      | nil => rfl
      | cons b w2 => cases e
    simp only [walk, List.append_nil] at e2
    refine ⟨Nat.le_of_ble_eq_true rfl, ?_⟩
    rw [e2, show s2 = (walk rows 0 w).2 from e3]
    exact hq
  · obtain ⟨w2, s2, g, x2, x5, e, l3, e2, e3, rfl⟩ := hI
    cases w2 with
    | nil => cases e
    | cons b w2 =>
      cases e
      obtain ⟨r, hr⟩ : ∃ r, rows[s2]? = some r := ⟨_, List.getElem?_eq_getElem l3⟩
      have hwk : walk rows s2 (b :: w2) = ((mvOf r b).1 ++ (walk rows (mvOf r b).2 w2).1, (walk rows (mvOf r b).2 w2).2) := by
        conv => lhs; unfold walk
        rw [hr]
      rw [hwk] at e2 e3
      have lg : (g ++ (mvOf r b).1).length ≤ 16777216 := by
        have := congrArg List.length e2
        simp only [List.length_append] at this ht ⊢
        omega
      have ixs : gIndex (S [76, 82]) (S [sg b]) = gIndex (S [76, 82]) (S [sg b]) := rfl
      cases b with
      | false =>
        refine ⟨_, rfl, _, at_row hr, rfl, .inl ⟨rfl, mvD r.1, rfl, rfl, rfl, ?_, ?_⟩⟩
        · show (enc g).length + (enc _).length ≤ _
          rw [enc_len, enc_len, ← List.length_append]
          exact lg
        · refine hN _ ⟨w2, r.1.2, g ++ r.1.1, some (.val (S [76])), some (.val (Wd r.1.1)), rfl, (mv_ok ok hr false).2, by rw [List.append_assoc]; exact e2, e3, ?_⟩
          rw [← S_app]
          rfl
      | true =>
        refine ⟨_, rfl, _, at_row hr, rfl, .inr ⟨rfl, mvD r.2.1, rfl, rfl, rfl, ?_, ?_⟩⟩
        · show (enc g).length + (enc _).length ≤ _
          rw [enc_len, enc_len, ← List.length_append]
          exact lg
        · refine hN _ ⟨w2, r.2.1.2, g ++ r.2.1.1, some (.val (S [82])), some (.val (Wd r.2.1.1)), rfl, (mv_ok ok hr true).2, by rw [List.append_assoc]; exact e2, e3, ?_⟩
          rw [← S_app]
          rfl
  · refine ⟨w, 0, f, none, none, ?_, hs, rfl, rfl, rfl⟩
    show (L (mk (enc w))).map _ = _
    rw [L_mk, enc, List.map_map]
    rfl
def F_law_bk_run : DF := fun ds q => ∃ (f : List Bool) (rows : List Row) (w : List Bool), ds = [macD f rows, Wd w] ∧ (∀ x ∈ rows, rowOk rows.length x) ∧ 0 < rows.length ∧ w.length ≤ 16777216 ∧ (runM f rows w).length ≤ 16777216 ∧ q (Wd (runM f rows w)) .none
theorem pl_law_bk_run : PL_law_bk_run F_law_bk_run F_law_bk_walk := by
  intro ds q a _ h
  obtain ⟨f, rows, w, rfl, ok, hs, hw, hl, hq⟩ := h
  have hs2 := walk_lt ok w 0 hs
  obtain ⟨r, hr⟩ : ∃ r, rows[(walk rows 0 w).2]? = some r := ⟨_, List.getElem?_eq_getElem hs2⟩
  have e : runM f rows w = f ++ (walk rows 0 w).1 ++ r.2.2 := by unfold runM; rw [hr]; rfl
  rw [e] at hl hq
  simp only [List.length_append] at hl
  refine ⟨rfl, f, rows, w, rfl, ok, hs, hw, by rw [List.length_append]; omega, .inl rfl, rfl, rfl, ?_⟩
  refine ⟨_, rfl, _, at_row hr, Wd r.2.2, rfl, ?_, ?_⟩
  · show (enc _).length + (enc _).length ≤ _
    rw [enc_len, enc_len, List.length_append]; omega
  · show q (S (enc _ ++ enc _)) .none
    rw [← enc_app]
    exact hq
end DL
namespace DL
open PySem PySem.Spec PyProof.Rows L2
/-! ### all short roads, as the law lists them -/
def lev : Nat → List (List Bool)
  | 0 => [[]]
  | k + 1 => (lev k).flatMap fun w => [w ++ [false], w ++ [true]]
theorem range_two (g : Nat → List Bool) : ∀ m : Nat, (List.range (2 * m)).map g = (List.range m).flatMap fun j => [g (2 * j), g (2 * j + 1)]
  | 0 => rfl
  | m + 1 => by
    rw [show 2 * (m + 1) = 2 * m + 1 + 1 by omega, List.range_succ, List.range_succ, List.range_succ, List.flatMap_append, ← range_two g m]
    simp
theorem lev_eq : ∀ k : Nat, lev k = (List.range (2 ^ k)).map fun j => nth (2 ^ k - 1 + j)
  | 0 => by simp [lev, nth0]
  | k + 1 => by
    have p : 0 < 2 ^ k := Nat.pow_pos (by decide)
    rw [lev, lev_eq k, Nat.pow_succ, Nat.mul_comm _ 2, range_two, List.flatMap_map]
    congr 1
    funext j
    rw [show 2 * 2 ^ k - 1 + 2 * j = 2 * (2 ^ k - 1 + j) + 1 by omega, show 2 * 2 ^ k - 1 + (2 * j + 1) = 2 * (2 ^ k - 1 + j) + 2 by omega, nth1, nth2]
theorem roads_succ (k : Nat) : roadsTo (k + 1) = roadsTo k ++ lev (k + 1) := by
  have p : 0 < 2 ^ (k + 1) := Nat.pow_pos (by decide)
  rw [lev_eq, roadsTo, roadsTo, show 2 ^ (k + 1 + 1) - 1 = (2 ^ (k + 1) - 1) + 2 ^ (k + 1) by rw [Nat.pow_succ]; omega, List.range_add, List.map_append, List.map_map]
  rfl
theorem lev_len (k : Nat) : (lev k).length = 2 ^ k := by rw [lev_eq]; simp
theorem lev_mem : ∀ (k : Nat) {w : List Bool}, w ∈ lev k → w.length = k
  | 0, w, h => by simp [lev] at h; subst h; rfl
  | k + 1, w, h => by
    simp [lev] at h
    obtain ⟨u, hu, h⟩ := h
    have := lev_mem k hu
    rcases h with rfl | rfl <;> simp [this]
def F_law_bk_texts : DF := fun ds q => ∃ n : Nat, ds = [.int n] ∧ n ≤ 20 ∧ q (.list ((roadsTo n).map Wd)) .none
theorem pl_law_bk_texts : PL_law_bk_texts F_law_bk_texts := by
  intro ds q a _ h
  obtain ⟨n, rfl, hn, hq⟩ := h
  simp [t_law_bk_texts, -e_forGo1]
  refine ⟨by omega, ?_⟩
  refine for_at (α := Nat) (β := (Nat × List (List Bool)) × Option Cell × Option Cell × Option Cell) (fun k => PyData.int k) (fun b => [some (.val (.int n)), b.2.1, some (.val (.list (b.1.2.map Wd))), some (.val (.list ((lev b.1.1).map Wd))), b.2.2.1, b.2.2.2])
    (fun r b => b.1.1 + r.length = n ∧ b.1.2 = roadsTo b.1.1) ?_ ?_ (List.range n) ((0, [[]]), none, none, none) ⟨by simp, by simp [roadsTo, nth0]⟩
  · rintro ⟨⟨k, fd⟩, x1, x4, x5⟩ ⟨h, e⟩
    simp at h e
    subst h e
    simp
    exact hq
  · rintro i r ⟨⟨k, fd⟩, x1, x4, x5⟩ ⟨h, e⟩ N hN
    simp at h hN e
    subst e
    have pk : 2 ^ (k + 1) ≤ 2 ^ 20 := Nat.pow_le_pow_right (by decide) (by omega)
    have pk2 : 2 ^ k ≤ 2 ^ 20 := Nat.pow_le_pow_right (by decide) (by omega)
    have pk3 : 2 ^ (k + 2) ≤ 2 ^ 21 := Nat.pow_le_pow_right (by decide) (by omega)
    simp [-e_forGo1]
    refine for_at (α := List Bool) (β := List (List Bool) × Option Cell) Wd (fun b => [some (.val (.int n)), some (.val (.int i)), some (.val (.list ((roadsTo k).map Wd))), some (.val (.list ((lev k).map Wd))), some (.val (.list (b.1.map Wd))), b.2])
      (fun s b => b.1 ++ (s.flatMap fun w => [w ++ [false], w ++ [true]]) = lev (k + 1) ∧ (∀ w ∈ s, w.length ≤ 20) ∧ b.1.length + 2 * s.length ≤ 2 ^ 21) ?_ ?_ (lev k) ([], x5) ⟨by simp [lev], fun w hw => by rw [lev_mem k hw]; omega, by simp [lev_len]; omega⟩
    · rintro ⟨l, y⟩ ⟨e, _, _⟩
      simp at e
      subst e
      simp [roads_many, lev_len]
      refine ⟨by omega, ?_⟩
      have := hN (k + 1) (roadsTo (k + 1)) (some (.val (.int i))) (some (.val (.list ((lev (k + 1)).map Wd)))) y (by omega) rfl
      rw [roads_succ] at this
      simpa using this
    · rintro w s ⟨l, y⟩ ⟨e, hw, hl⟩ M hM
      simp at e hw hl hM
      simp
      refine ⟨by omega, by omega, ?_⟩
      have := hM (l ++ [w ++ [false], w ++ [true]]) (some (.val (Wd w))) (by rw [← e]; simp) hw.2 (by simp; omega)
      simpa using this
end DL
namespace DL
open PySem PySem.Spec PyProof.Rows L2
/-! ### how words and machines are shown and held against one another -/
theorem big_w (w : List Bool) : ((mk (enc w)).cps.toList.all fun c => decide (c < 16 ^ 8)) = true := by
  rw [List.all_eq_true]
  intro c hc
  exact decide_eq_true (Nat.lt_trans (enc_lt w c hc) (by decide))
theorem size_w (w : List Bool) : (mk (enc w)).cps.size = w.length := by
  show (enc w).toArray.size = _
  rw [List.size_toArray, enc_len]
theorem short_ws : ∀ ws : List (List Bool), PyData.leavesShortAll 8 (ws.map Wd) = true
  | [] => rfl
  | w :: ws => by
    simp only [List.map_cons, PyData.leavesShortAll, short_ws ws, Bool.and_true]
    exact big_w w
theorem weight_ws : ∀ ws : List (List Bool), PyData.weightAll (ws.map Wd) = (ws.map fun w => w.length + 1).sum
  | [] => rfl
  | w :: ws => by
    simp only [List.map_cons, PyData.weightAll, weight_ws ws, List.sum_cons]
    congr 1
    show (mk (enc w)).cps.size + 1 = _
    rw [size_w]
theorem depth_ws : ∀ ws : List (List Bool), PyData.depthAll (ws.map Wd) = 0
  | [] => rfl
  | w :: ws => by
    simp only [List.map_cons, PyData.depthAll, depth_ws ws]
    rfl
theorem showable_ws : ∀ ws : List (List Bool), PyData.showableAll (ws.map Wd) = true
  | [] => rfl
  | w :: ws => by
    simp only [List.map_cons, PyData.showableAll, showable_ws ws, Bool.and_true]
    rfl
theorem nodict_ws : ∀ ws : List (List Bool), PyData.hasDictAll (ws.map Wd) = false
  | [] => rfl
  | w :: ws => by
    simp only [List.map_cons, PyData.hasDictAll, nodict_ws ws, Bool.or_false]
    rfl
theorem sum_le {α : Type} (f : α → Nat) (B : Nat) : ∀ xs : List α, (∀ x ∈ xs, f x ≤ B) → (xs.map f).sum ≤ xs.length * B
  | [], _ => by simp
  | x :: xs, h => by
    rw [List.map_cons, List.sum_cons, List.length_cons, Nat.succ_mul]
    have := sum_le f B xs fun y hy => h y (List.mem_cons_of_mem _ hy)
    have := h x (List.mem_cons_self ..)
    omega
theorem shows_ws {ws : List (List Bool)} {B : Nat} (h : ∀ w ∈ ws, w.length ≤ B) (hB : ws.length * (B + 1) ≤ 1048576) : Shows (.list (ws.map Wd)) := by
  have su := sum_le (fun w : List Bool => w.length + 1) (B + 1) ws fun w hw => by have := h w hw; omega
  refine ⟨showable_ws ws, nodict_ws ws, ?_, ?_⟩
  · show PyData.depthAll _ + 1 ≤ 60
    rw [depth_ws]
    decide
  · have fit := PyData.shown_fits (B := 8) (Nat.le_refl _) (by decide) (d := .list (ws.map Wd)) (short_ws ws) (by
      show PyData.weightAll _ ≤ _
      rw [weight_ws]
      omega)
    rw [sizeLine_eq] at fit
    exact fit
theorem canlay_w (w : List Bool) : PyData.canLay0 (Wd w) = true := strOk_mk (enc_lt w)
theorem canlay_row (r : Row) : PyData.canLay0 (rowD r) = true ∧ PyData.depth (rowD r) ≤ 2 := by
  have h := canlay_w
  refine ⟨?_, ?_⟩
  · simp only [rowD, mvD, PyData.canLay0, PyData.canLayAll0, Bool.and_true, Bool.and_eq_true]
    exact ⟨h _, h _, h _⟩
  · simp [rowD, mvD, PyData.depth, PyData.depthAll]
theorem canlay_rows : ∀ rows : List Row, PyData.canLayAll0 (rows.map rowD) = true ∧ PyData.depthAll (rows.map rowD) ≤ 2
  | [] => ⟨rfl, by decide⟩
  | r :: rows => by
    obtain ⟨a, b⟩ := canlay_rows rows
    obtain ⟨c, d⟩ := canlay_row r
    refine ⟨?_, ?_⟩
    · simp only [List.map_cons, PyData.canLayAll0, a, c, Bool.and_self]
    · simp only [List.map_cons, PyData.depthAll]
      omega
theorem canlay_mac (f : List Bool) (rows : List Row) : PyData.canLay0 (macD f rows) = true ∧ PyData.depth (macD f rows) ≤ 4 := by
  obtain ⟨a, b⟩ := canlay_rows rows
  refine ⟨?_, ?_⟩
  · simp only [macD, PyData.canLay0, PyData.canLayAll0, a, Bool.and_true]
    exact canlay_w f
  · simp only [macD, PyData.depth, PyData.depthAll]
    omega
@[simp] theorem shaped_mac (f : List Bool) (rows : List Row) : SeqAt.shaped (macD f rows) = true := by
  obtain ⟨a, b⟩ := canlay_mac f rows
  unfold SeqAt.shaped
  rw [a, Bool.true_and]
  exact decide_eq_true (by omega)
@[simp] theorem eqv_mac (f : List Bool) (rows : List Row) : PyData.eqv (macD f rows) (macD f rows) = true := SeqAt.eqv_refl _ (canlay_mac f rows).1
theorem flats_rows : ∀ rows : List Row, flats (rows.map rowD) = true
  | [] => rfl
  | r :: rows => by
    simp only [List.map_cons, flats_1, flats_rows rows, Bool.and_true]
    simp [rowD, mvD]
theorem flats_ws : ∀ ws : List (List Bool), flats (ws.map Wd) = true
  | [] => rfl
  | r :: rows => by simp [flats_ws rows]
theorem cpy_rows : ∀ rows : List Row, (rows.map rowD).all (cpyD 2) = true
  | [] => rfl
  | r :: rows => by
    rw [List.map_cons, List.all_cons, cpy_rows rows, Bool.and_true]
    simp [rowD, mvD, cpyD]
theorem cpy_mac (f : List Bool) {rows : List Row} (h : rows.length ≤ 16777216) : cpyD 4 (macD f rows) = true := by
  have := cpy_rows rows
  unfold macD cpyD
  simp only [List.length_cons, List.length_nil, List.all_cons, List.all_nil, Bool.and_true]
  unfold cpyD
  rw [this]
  simp [h]
theorem nodes_rows : ∀ rows : List Row, nodesL (rows.map rowD) = []
  | [] => rfl
  | r :: rows => by simp [nodesL, nodes, rowD, mvD, nodes_rows rows]
theorem nodes_ws : ∀ ws : List (List Bool), nodesL (ws.map Wd) = []
  | [] => rfl
  | w :: ws => by simp only [List.map_cons, nodesL, nodes, nodes_ws ws, List.append_nil]
theorem apart_tab {f : List Bool} {rows : List Row} {n : Int} (h : 0 < rows.length) (ws : List (List Bool)) : Apart [macD f rows, .int n] (.list (ws.map Wd)) := by
  intro x hx
  simp only [nodesL, nodes, macD, nodes_rows, List.append_nil, List.nil_append, List.mem_cons, List.not_mem_nil, or_false] at hx
  subst hx
  simp only [nodes, nodes_ws, List.mem_cons, List.not_mem_nil, or_false]
  intro e
  injection e with e
  cases rows with
  | nil => simp at h
  | cons r rows =>
    cases ws with
    | nil => simp at e
    | cons w ws =>
      simp at e
      cases e.1
/-! ### how long what is written is -/
theorem walk_len {top : Nat} {rows : List Row} (h : ∀ r ∈ rows, r.1.1.length ≤ top ∧ r.2.1.1.length ≤ top) : ∀ (w : List Bool) (s : Nat), (walk rows s w).1.length ≤ top * w.length
  | [], s => by simp [walk]
  | t :: w, s => by
    unfold walk
    cases e : rows[s]? with
    | none => simp
    | some r =>
      obtain ⟨a, b⟩ := h r (List.mem_of_getElem? e)
      have ih := walk_len h w (mvOf r t).2
      simp only [List.length_append, List.length_cons, Nat.mul_succ]
      have : (mvOf r t).1.length ≤ top := by
        cases t
        · exact a
        · exact b
      omega
theorem run_len {many top : Nat} {f : List Bool} {rows : List Row} (h : shOk many top f rows) (w : List Bool) : (runM f rows w).length ≤ top * (w.length + 2) := by
  obtain ⟨h1, h2, h3⟩ := h
  have := walk_len (top := top) (rows := rows) (fun r hr => by obtain ⟨a, _, b, _, _⟩ := h3 r hr; exact ⟨a, b⟩) w 0
  unfold runM
  simp only [List.length_append]
  have e : (((rows[(walk rows 0 w).2]?).map (·.2.2)).getD []).length ≤ top := by
    cases e : rows[(walk rows 0 w).2]? with
    | none => simp
    | some r =>
      obtain ⟨_, _, _, _, c⟩ := h3 r (List.mem_of_getElem? e)
      simpa using c
  rw [Nat.mul_add]
  omega
theorem sh_mac {many top : Nat} {f : List Bool} {rows : List Row} (h : shOk many top f rows) (hm : 0 < many) (ht : top ≤ 1000000) : macOk f rows := by
  obtain ⟨h1, h2, h3⟩ := h
  refine ⟨by omega, by omega, fun r hr => ?_⟩
  obtain ⟨a, b, c, d, e⟩ := h3 r hr
  exact ⟨⟨by omega, by omega⟩, ⟨by omega, by omega⟩, by omega⟩
theorem sh_rev {many top : Nat} {f : List Bool} {rows : List Row} (h : shOk many top f rows) : shOk many top f rows.reverse := ⟨h.1, by rw [List.length_reverse]; exact h.2.1, fun r hr => h.2.2 r (List.mem_reverse.mp hr)⟩
theorem putN_mac {i : Nat} {f : List Bool} {rows : List Row} {ρ : DEnv} {k : DEnv → Prop} : putN i (macD f rows) ρ k = ∀ P, k (ρ.set i (some (.deep P (macD f rows)))) := rfl
theorem putN_ws {i : Nat} {ws : List (List Bool)} {ρ : DEnv} {k : DEnv → Prop} : putN i (.list (ws.map Wd)) ρ k = ∀ p, k (ρ.set i (some (.own p (.list (ws.map Wd))))) := by
  show (if flats (ws.map Wd) = true then _ else _) = _
  rw [if_pos (flats_ws ws)]
theorem ixN_0 {n : Nat} (h : 0 < n) : ixN n 0 = some 0 := by
  unfold ixN
  rw [if_pos (by omega), if_pos (by omega)]
  rfl
theorem apart_swap {x y d : PyData} (h : Apart [x, y] d) : Apart [y, x] d := fun l hl => h l (by
  simp only [nodesL, List.append_nil, List.mem_append] at hl ⊢
  exact hl.symm)
end DL
namespace DL
open PySem PySem.Spec PyProof.Rows L2
open Sy
theorem mf_words {T : List Bool → List Bool} {n B : Nat} (hn : 1 ≤ n) {later all : List (List Bool)} (hT : ∀ v : List Bool, v.length ≤ 2 * n - 1 → (T v).length ≤ B) {X : List Bool × List RowN} (h : mfT T n later all = some X) : X.1.length ≤ B ∧ ∀ r ∈ X.2, r.1.1.length ≤ B ∧ r.2.1.1.length ≤ B ∧ r.2.2.length ≤ B := by
  unfold mfT at h
  cases q : bGo (markT T later) n (n + 1) [[]] [] with
  | none => rw [q] at h; cases h
  | some z =>
    rw [q] at h
    simp only at h
    obtain ⟨F, ml⟩ := Found.go (n + 1) _ _ (found0 hn) z q
    have fl := F.le
    cases q2 : endsT T (mvAt z.2) z.1 with
    | none => rw [q2] at h; cases h
    | some E =>
      rw [q2] at h
      simp only at h
      split at h
      · cases h
        have t0 := hT [] (by simp)
        refine ⟨by show ((T []).take _).length ≤ _; rw [List.length_take]; omega, fun r hr => ?_⟩
        unfold mfX at hr
        simp only [List.mem_map, List.mem_range] at hr
        obtain ⟨k, hk, rfl⟩ := hr
        have hv := List.getElem?_eq_getElem hk
        have vl := F.sh k _ hv
        have gd : z.1.getD k [] = z.1[k] := by rw [List.getD_eq_getElem?_getD, hv]; rfl
        rw [gd]
        have a := hT z.1[k] (by omega)
        have b := hT (z.1[k] ++ [false]) (by rw [List.length_append, List.length_singleton]; omega)
        have c := hT (z.1[k] ++ [true]) (by rw [List.length_append, List.length_singleton]; omega)
        refine ⟨?_, ?_, ?_⟩
        · show (wordB T z.1[k] false _ _).length ≤ _
          unfold wordB
          rw [List.length_drop, List.length_take]
          omega
        · show (wordB T z.1[k] true _ _).length ≤ _
          unfold wordB
          rw [List.length_drop, List.length_take]
          omega
        · show ((T z.1[k]).drop _).length ≤ _
          rw [List.length_drop]
          omega
      · cases h
theorem small_shown : ∀ k : Nat, k < 100 → (PyData.shown (.int (k : Int))).length ≤ 8 := by decide +kernel
theorem small_w {k : Nat} (h : k < 100) : (if ((k : Int) == 0) = true then 0 else (k : Int).natAbs.log2 + 1) ≤ 7 := by
  have := log2_small (n := k) (k := 6) (by omega)
  split
  · omega
  · rw [Int.natAbs_natCast]
    omega
theorem show_rows {B : Nat} : ∀ rows : List Row, (∀ r ∈ rows, r.1.1.length ≤ B ∧ r.2.1.1.length ≤ B ∧ r.2.2.length ≤ B ∧ r.1.2 < 100 ∧ r.2.1.2 < 100) →
    PyData.showableAll (rows.map rowD) = true ∧ PyData.hasDictAll (rows.map rowD) = false ∧ PyData.leavesShortAll 8 (rows.map rowD) = true ∧ PyData.weightAll (rows.map rowD) ≤ rows.length * (3 * B + 40)
  | [], _ => by simp [PyData.showableAll, PyData.hasDictAll, PyData.leavesShortAll, PyData.weightAll]
  | r :: rows, h => by
    obtain ⟨a, b, c, d⟩ := show_rows rows fun x hx => h x (List.mem_cons_of_mem _ hx)
    obtain ⟨⟨w1, k1⟩, ⟨w2, k2⟩, w3⟩ := r
    obtain ⟨h1, h2, h3, h4, h5⟩ := h _ (List.mem_cons_self ..)
    simp only at h1 h2 h3 h4 h5
    refine ⟨?_, ?_, ?_, ?_⟩
    · have g1 := log2_small (n := k1) (k := 6) (by omega)
      have g2 := log2_small (n := k2) (k := 6) (by omega)
      simp [rowD, mvD, PyData.showable, PyData.showableAll, a]
      omega
    · simp [rowD, mvD, PyData.hasDict, PyData.hasDictAll, b]
    · have s1 := small_shown k1 h4
      have s2 := small_shown k2 h5
      simp only [rowD, mvD, List.map_cons, PyData.leavesShort, PyData.leavesShortAll, big_w, c, Bool.and_true, Bool.true_and, Bool.and_self]
      simp [s1, s2]
    · simp only [rowD, mvD, List.map_cons, PyData.weight, PyData.weightAll, size_w, List.length_cons] at d ⊢
      rw [Nat.succ_mul]
      have s1 := small_w h4
      have s2 := small_w h5
      omega
theorem shows_mac {f : List Bool} {rows : List Row} (hf : f.length ≤ 1000) (hl : rows.length < 100) (h : ∀ r ∈ rows, r.1.1.length ≤ 1000 ∧ r.2.1.1.length ≤ 1000 ∧ r.2.2.length ≤ 1000) (hr : rowsIn rows) : Shows (macD f rows) := by
  obtain ⟨a, b, c, d⟩ := show_rows (B := 1000) rows fun r hx => by
    have := h r hx
    have := hr.2 r hx
    omega
  refine ⟨?_, ?_, ?_, ?_⟩
  · simp [macD, PyData.showable, PyData.showableAll, a]
  · simp [macD, PyData.hasDict, PyData.hasDictAll, b]
  · have := (canlay_mac f rows).2
    omega
  · have dd : rows.length * (3 * 1000 + 40) ≤ 99 * (3 * 1000 + 40) := Nat.mul_le_mul (by omega) (Nat.le_refl _)
    have fit := PyData.shown_fits (B := 8) (Nat.le_refl _) (by decide) (d := macD f rows) (by
      simp only [macD, PyData.leavesShort, PyData.leavesShortAll, big_w, c, Bool.and_true, Bool.true_and, Bool.and_self]) (by
      simp only [macD, PyData.weight, PyData.weightAll, size_w]
      omega)
    rw [sizeLine_eq] at fit
    exact fit
theorem shows_none : Shows .none := ⟨rfl, rfl, Nat.zero_le _, by decide +kernel⟩
end DL
namespace DL
open PySem PySem.Spec PyProof.Rows L2
open Sy
/-! ### the first road that parts two machines, asked for -/
theorem starts_W (u v : List Bool) : Txt.startswith (mk (enc u)) (mk (enc v)) = v.isPrefixOf u := by
  have hl : ∀ w : List Bool, (mk (enc w)).length = w.length := fun w => by simp
  unfold Txt.startswith
  rw [PySem.StrLaws.subAt_eq, Bool.eq_iff_iff, Bool.and_eq_true, decide_eq_true_iff, beq_iff_eq, hl, hl]
  show (0 + v.length ≤ u.length ∧ ((enc u).drop 0).take v.length = enc v) ↔ _
  rw [List.isPrefixOf_iff_prefix, List.drop_zero]
  constructor
  · rintro ⟨h1, h2⟩
    have : enc (u.take v.length) = enc v := by
      unfold enc at h2 ⊢
      rw [List.map_take]
      exact h2
    have e := enc_inj this
    rw [← e]
    exact List.take_prefix _ _
  · rintro ⟨z, rfl⟩
    refine ⟨by simp, ?_⟩
    unfold enc
    rw [← List.map_take]
    simp
@[simp] theorem starts_W' (u v : List Bool) : Txt.startswith (mk (enc u)) (mk (enc v)) = v.isPrefixOf u := starts_W u v
def surD : Option (List Bool × List Bool) → PyData
  | none => .none
  | some (a, b) => .tuple [Wd a, Wd b]
def F_surplus_behind : DF := fun ds q => ∃ a b u v : List Bool, ds = [.tuple [Wd a, Wd b], Wd u, Wd v] ∧ a.length + u.length ≤ 16777216 ∧ b.length + v.length ≤ 16777216 ∧ q (surD (surp (a ++ u) (b ++ v))) .none
theorem cutW_from (w : List Bool) (n : Nat) : cutD (enc w) (some (n : Int)) none = enc (w.drop n) := by rw [cut_enc, cut_from]
theorem pl_surplus_behind : PL_surplus_behind F_surplus_behind := by
  intro ds q a0 _ h
  obtain ⟨a, b, u, v, rfl, h1, h2, hq⟩ := h
  simp [t_surplus_behind]
  refine ⟨h1, h2, ?_⟩
  unfold surp at hq
  by_cases c1 : (b ++ v).isPrefixOf (a ++ u) = true
  · rw [if_pos c1] at hq
    rw [if_pos (List.isPrefixOf_iff_prefix.mp c1)]
    have e := cutW_from (a ++ u) (b ++ v).length
    rw [List.length_append] at e
    simp only [Int.natCast_add] at e
    simp [surD] at hq ⊢
    refine ⟨by omega, by omega, ?_⟩
    rw [e]
    simpa using hq
  · rw [if_neg c1] at hq
    rw [if_neg (fun z => c1 (List.isPrefixOf_iff_prefix.mpr z))]
    by_cases c2 : (a ++ u).isPrefixOf (b ++ v) = true
    · rw [if_pos c2] at hq
      rw [if_pos (List.isPrefixOf_iff_prefix.mp c2)]
      have e := cutW_from (b ++ v) (a ++ u).length
      rw [List.length_append] at e
      simp only [Int.natCast_add] at e
      simp [surD] at hq ⊢
      refine ⟨by omega, by omega, ?_⟩
      rw [e]
      simpa using hq
    · rw [if_neg c2] at hq
      rw [if_neg (fun z => c2 (List.isPrefixOf_iff_prefix.mpr z))]
      exact hq
/-- words of a machine that are not long -/
structure Slim (B : Nat) (f : List Bool) (rows : List Row) : Prop where
  ins : rowsIn rows
  f : f.length ≤ B
  r : ∀ r ∈ rows, r.1.1.length ≤ B ∧ r.2.1.1.length ≤ B ∧ r.2.2.length ≤ B
theorem Slim.ok {B : Nat} {f : List Bool} {rows : List Row} (h : Slim B f rows) (hb : B ≤ 1000000) : macOk f rows :=
  ⟨by have := h.f; omega, h.ins.1, fun r hr => by
    have a := h.ins.2 r hr
    have b := h.r r hr
    exact ⟨⟨by omega, by omega⟩, ⟨by omega, by omega⟩, by omega⟩⟩
theorem Slim.words {B : Nat} {f : List Bool} {rows : List Row} (h : Slim B f rows) (hb : B ≤ 1000000) (hl : rows.length ≤ 1000000) : wordsIn rows := ⟨hl, fun r hr => by have := h.r r hr; omega⟩
theorem Slim.out {B : Nat} {f : List Bool} {rows : List Row} (h : Slim B f rows) : ∀ (w : List Bool) (s : Nat), ((syOf rows).out s w).length ≤ B * w.length
  | [], s => Nat.zero_le _
  | t :: w, s => by
    have ih := Slim.out h w ((syOf rows).g s t)
    have : ((syOf rows).w s t).length ≤ B := by
      unfold syOf
      simp only
      split
      · rename_i r e
        have := h.r r (List.mem_of_getElem? e)
        split <;> omega
      · simp
    show ((syOf rows).w s t ++ (syOf rows).out ((syOf rows).g s t) w).length ≤ _
    rw [List.length_append, List.length_cons, Nat.mul_succ]
    omega
theorem Slim.end_ {B : Nat} {f : List Bool} {rows : List Row} (h : Slim B f rows) (s : Nat) : ((syOf rows).e s).length ≤ B := by
  unfold syOf
  simp only
  split
  · rename_i r e
    have := h.r r (List.mem_of_getElem? e)
    omega
  · simp
theorem Slim.run {B : Nat} {f : List Bool} {rows : List Row} (h : Slim B f rows) (w : List Bool) : (runR f rows w).length ≤ B * (w.length + 2) := by
  have a := h.out w 0
  have b := h.end_ ((syOf rows).st 0 w)
  have c := h.f
  unfold runR
  rw [run_end, List.length_append, List.length_append, Nat.mul_add]
  omega
theorem Slim.lt {B : Nat} {f : List Bool} {rows : List Row} (h : Slim B f rows) : ∀ (w : List Bool) (s : Nat), s < rows.length → (syOf rows).st s w < rows.length
  | [], s, hs => hs
  | t :: w, s, hs => Slim.lt h w _ (h.ins.lt s t hs)
/-- what the first road that parts two machines is -/
def FirstU (R1 R2 : List Bool → List Bool) : Option (List Bool) → Prop
  | none => ∀ v, R1 v = R2 v
  | some v => ∃ i, v = nth i ∧ R1 (nth i) ≠ R2 (nth i) ∧ ∀ j, j < i → R1 (nth j) = R2 (nth j)
def optD : Option (List Bool) → PyData
  | none => .none
  | some w => Wd w
def prD (p : Nat × Nat) : PyData := .tuple [.int p.1, .int p.2]
theorem keyBT_pr (a b : Nat × Nat) : keyBT (prD a) (prD b) = decide (a = b) := by
  rw [Bool.eq_iff_iff]
  obtain ⟨a1, a2⟩ := a
  obtain ⟨b1, b2⟩ := b
  simp [prD, keyBT, keysEq, keyB]
def seenD (ps : List (Nat × Nat)) : List (PyData × PyData) := ps.map fun p => (prD p, .bool true)
theorem seenD_get (ps : List (Nat × Nat)) (p : Nat × Nat) : (dGetT (seenD ps) (prD p)).isSome = decide (p ∈ ps) := by
  unfold dGetT dLook seenD
  induction ps with
  | nil => simp
  | cons x ps ih =>
    rw [List.map_cons]
    by_cases e : x = p
    · subst e
      rw [List.find?_cons_of_pos (by show keyBT (prD x) (prD x) = true; rw [keyBT_pr]; simp)]
      simp
    · rw [List.find?_cons_of_neg (by show ¬ keyBT (prD x) (prD p) = true; rw [keyBT_pr]; simpa using e), ih]
      have : ¬ p = x := fun z => e z.symm
      simp [this]
theorem seenD_put {ps : List (Nat × Nat)} {p : Nat × Nat} (h : p ∉ ps) : dPutT (seenD ps) (prD p) (.bool true) = seenD (ps ++ [p]) := by
  unfold dPutT
  have : ((seenD ps).any fun e => keyBT e.1 (prD p)) = false := by
    rw [Bool.eq_false_iff]
    intro z
    rw [List.any_eq_true] at z
    obtain ⟨e, he, k⟩ := z
    obtain ⟨y, hy, rfl⟩ := List.mem_map.mp he
    rw [keyBT_pr] at k
    simp at k
    subst k
    exact h hy
  rw [this, if_neg Bool.false_ne_true]
  simp [seenD]
/-- what waits: both states, what one side has written more, the road -/
def waitD (A B : Sy) (f1 f2 : List Bool) (i : Nat) : PyData := .tuple [.int (A.st 0 (nth i)), .int (B.st 0 (nth i)), surD (surAt A B f1 f2 (nth i)), Wd (nth i)]
theorem nth_small : ∀ i : Nat, (nth i).length ≤ i := by
  intro i
  induction i using Nat.strongRecOn with
  | ind i ih =>
    rcases nth_half i with rfl | ⟨j, b, e, h⟩
    · rw [nth0]; simp
    · have := ih j (by omega)
      rw [h, List.length_append, List.length_singleton]
      omega
def F_first_unlike : DF := fun ds q => ∃ (f1 : List Bool) (r1 : List Row) (f2 : List Bool) (r2 : List Row), ds = [macD f1 r1, macD f2 r2] ∧ Slim 1000 f1 r1 ∧ Slim 1000 f2 r2 ∧ r1.length * r2.length ≤ 1000 ∧
  ∀ o, FirstU (runR f1 r1) (runR f2 r2) o → q (optD o) .none
end DL
namespace DL
open PySem PySem.Spec PyProof.Rows L2
open Sy
theorem flat_sur (x : Option (List Bool × List Bool)) : flat (surD x) = true := by
  cases x with
  | none => rfl
  | some p => rfl
theorem isKeyT_pr (p : Nat × Nat) : isKeyT (prD p) = true := rfl
theorem sy_row {rows : List Row} {s : Nat} {r : Row} (h : rows[s]? = some r) : (syOf rows).w s false = r.1.1 ∧ (syOf rows).w s true = r.2.1.1 ∧ (syOf rows).g s false = r.1.2 ∧ (syOf rows).g s true = r.2.1.2 ∧ (syOf rows).e s = r.2.2 := by simp [syOf, h]
theorem pl_first_unlike : PL_first_unlike F_first_unlike F_check_machine F_surplus_behind := by
  intro ds q a0 _ h
  obtain ⟨f1, r1, f2, r2, rfl, S1, S2, hm, hq⟩ := h
  let A := syOf r1
  let B := syOf r2
  have mm : ∀ f rows, macD f rows = .tuple [Wd f, .list (rows.map rowD)] := fun _ _ => rfl
  have c1 := S1.ok (by decide)
  have c2 := S2.ok (by decide)
  have l1 := S1.f
  have l2 := S2.f
  simp [t_first_unlike]
  refine ⟨f1, r1, rfl, c1, ?_⟩
  simp
  refine ⟨f2, r2, rfl, c2, ?_⟩
  simp [mm]
  refine ⟨[], [], f1, f2, rfl, by simp; omega, by simp; omega, ?_⟩
  simp [flat_sur]
  intro p2 p3
  have e0 : waitD A B f1 f2 0 = .tuple [.int 0, .int 0, surD (surp f1 f2), Wd []] := by
    unfold waitD surAt
    rw [nth0]
    simp [Sy.st, Sy.out]
  rw [← e0]
  refine while_at (α := (List Nat × Nat × List (Nat × Nat)) × Option Cell × Option Cell × Option Cell × Option Cell × Option Cell × Option Cell × Option Cell × Option Cell × Option Cell × Option Cell × Option Cell × Option Cell)
    (fun z => [some (.val (macD f1 r1)), some (.val (macD f2 r2)), some (.own p2 (.list (z.1.1.map (waitD A B f1 f2)))), some (.own p3 (.dict ((.none, .none) :: seenD z.1.2.2))), some (.val (.int z.1.2.1)), z.2.1, z.2.2.1, z.2.2.2.1, z.2.2.2.2.1, z.2.2.2.2.2.1, z.2.2.2.2.2.2.1, z.2.2.2.2.2.2.2.1, z.2.2.2.2.2.2.2.2.1, z.2.2.2.2.2.2.2.2.2.1, z.2.2.2.2.2.2.2.2.2.2.1, z.2.2.2.2.2.2.2.2.2.2.2.1, z.2.2.2.2.2.2.2.2.2.2.2.2])
    (fun z => FU A B f1 f2 r1.length r2.length z.1.1 z.1.2.1 z.1.2.2 ∧ (∀ i ∈ z.1.1, (nth i).length ≤ z.1.2.2.length))
    (fun z => 3 * (1000 - z.1.2.2.length) + (z.1.1.length - z.1.2.1)) (fun z => decide (z.1.2.1 < z.1.1.length))
    (x0 := (([0], 0, []), none, none, none, none, none, none, none, none, none, none, none, none)) ⟨FU.init _ _, by simp [nth0]⟩ ?_ ?_ ?_
  · rintro ⟨⟨is, p, seen⟩, x5, x6, x7, x8, x9, x10, x11, x12, x13, x14, x15, x16⟩ _ K hK
    simp at hK ⊢
    exact hK
  · rintro ⟨⟨is, p, seen⟩, x5, x6, x7, x8, x9, x10, x11, x12, x13, x14, x15, x16⟩ ⟨U, hlen⟩ ht N hN
    simp at ht U hlen hN
    obtain ⟨i, hi⟩ : ∃ i, is[p]? = some i := ⟨_, List.getElem?_eq_getElem ht⟩
    have il := hlen i (List.mem_of_getElem? hi)
    have sl := U.short
    have few := U.few
    have lt1 := S1.lt (nth i) 0 S1.ins.1
    have lt2 := S2.lt (nth i) 0 S2.ins.1
    obtain ⟨q1, hq1⟩ : ∃ r, r1[A.st 0 (nth i)]? = some r := ⟨_, List.getElem?_eq_getElem lt1⟩
    obtain ⟨q2, hq2⟩ : ∃ r, r2[B.st 0 (nth i)]? = some r := ⟨_, List.getElem?_eq_getElem lt2⟩
    have g1 := sy_row hq1
    have g2 := sy_row hq2
    simp [hi, waitD, -e_forGo1]
    cases hs : surAt A B f1 f2 (nth i) with
    | none =>
      simp [surD]
      exact hq (some (nth i)) ⟨i, rfl, surAt_none hs, U.found hi (surAt_none hs)⟩
    | some ab =>
      obtain ⟨a, b⟩ := ab
      have sm := surAt_some hs
      have al : a.length ≤ 1001000 ∧ b.length ≤ 1001000 := by
        obtain ⟨pp, z1, z2⟩ := surp_some hs
        have o1 := S1.out (nth i) 0
        have o2 := S2.out (nth i) 0
        have m1 : 1000 * (nth i).length ≤ 1000 * 1000 := Nat.mul_le_mul_left _ (by omega)
        have y1 := congrArg List.length z1
        have y2 := congrArg List.length z2
        simp only [List.length_append] at y1 y2
        show a.length ≤ _ ∧ b.length ≤ _
        have o1 : (A.out 0 (nth i)).length ≤ 1000 * (nth i).length := o1
        have o2 : (B.out 0 (nth i)).length ≤ 1000 * (nth i).length := o2
        omega
      have w1 := S1.r q1 (List.mem_of_getElem? hq1)
      have w2 := S2.r q2 (List.mem_of_getElem? hq2)
      have ee1 : A.e (A.st 0 (nth i)) = q1.2.2 := g1.2.2.2.2
      have ee2 : B.e (B.st 0 (nth i)) = q2.2.2 := g2.2.2.2.2
      rw [ee1, ee2] at sm
      simp [surD, mm, hq1, hq2, rowD, mvD, -e_forGo1]
      refine ⟨by omega, by omega, ?_⟩
      by_cases c : a ++ q1.2.2 = b ++ q2.2.2
      · have same : SameAt A B f1 f2 (nth i) := sm.mpr c
        rw [if_pos c]
        have gp : (dGetT (seenD seen) (.tuple [.int (A.st 0 (nth i)), .int (B.st 0 (nth i))])).isSome = decide (pairAt A B (nth i) ∈ seen) := seenD_get seen (pairAt A B (nth i))
        rw [gp]
        refine ⟨rfl, ?_⟩
        by_cases d : pairAt A B (nth i) ∈ seen
        · rw [if_pos (decide_eq_true d)]
          exact hN is (p + 1) seen _ _ _ _ _ _ _ _ _ _ _ _ (U.skip hi same d) hlen (by omega)
        · rw [if_neg (by simpa using d)]
          have U2 := U.go hi same d lt1 lt2
          have sl2 := U2.short
          rw [List.length_append, List.length_singleton] at sl2
          have pt : dPutT (seenD seen) (.tuple [.int (A.st 0 (nth i)), .int (B.st 0 (nth i))]) (.bool true) = seenD (seen ++ [pairAt A B (nth i)]) := seenD_put d
          rw [pt]
          have wt : ∀ t : Bool, waitD A B f1 f2 (2 * i + 1 + (if t then 1 else 0)) = .tuple [.int (A.g (A.st 0 (nth i)) t), .int (B.g (B.st 0 (nth i)) t), surD (surp (a ++ A.w (A.st 0 (nth i)) t) (b ++ B.w (B.st 0 (nth i)) t)), Wd (nth i ++ [t])] := fun t => by
            have nn : nth (2 * i + 1 + (if t then 1 else 0)) = nth i ++ [t] := by
              cases t
              · exact nth1 i
              · exact nth2 i
            have st1 := pairAt_step (A := A) (B := B) (nth i) t
            unfold waitD
            rw [nn, surAt_step hs t]
            have s1 : A.st 0 (nth i ++ [t]) = A.g (A.st 0 (nth i)) t := congrArg Prod.fst st1
            have s2 : B.st 0 (nth i ++ [t]) = B.g (B.st 0 (nth i)) t := congrArg Prod.snd st1
            rw [s1, s2]
          have wt0 : waitD A B f1 f2 (2 * i + 1) = _ := wt false
          have wt1 : waitD A B f1 f2 (2 * i + 2) = _ := wt true
          have gw : A.w (A.st 0 (nth i)) false = q1.1.1 ∧ A.w (A.st 0 (nth i)) true = q1.2.1.1 ∧ A.g (A.st 0 (nth i)) false = q1.1.2 ∧ A.g (A.st 0 (nth i)) true = q1.2.1.2 := ⟨g1.1, g1.2.1, g1.2.2.1, g1.2.2.2.1⟩
          have gv : B.w (B.st 0 (nth i)) false = q2.1.1 ∧ B.w (B.st 0 (nth i)) true = q2.2.1.1 ∧ B.g (B.st 0 (nth i)) false = q2.1.2 ∧ B.g (B.st 0 (nth i)) true = q2.2.1.2 := ⟨g2.1, g2.2.1, g2.2.2.1, g2.2.2.2.1⟩
          rw [gw.1, gw.2.2.1, gv.1, gv.2.2.1] at wt0
          rw [gw.2.1, gw.2.2.2, gv.2.1, gv.2.2.2] at wt1
          have ls : (seenD seen).length = seen.length := by simp [seenD]
          refine ⟨rfl, by omega, ?_⟩
          simp [List.range_succ]
          refine ⟨a, b, q1.1.1, q2.1.1, rfl, by omega, by omega, ?_⟩
          simp [flat_sur]
          refine ⟨by omega, by omega, ?_⟩
          refine ⟨a, b, q1.2.1.1, q2.2.1.1, rfl, by omega, by omega, ?_⟩
          simp [flat_sur]
          refine ⟨by omega, by omega, ?_⟩
          have fin := fun x5 x12 x13 x14 x15 x16 => hN (is ++ [2 * i + 1, 2 * i + 2]) (p + 1) (seen ++ [pairAt A B (nth i)]) x5 (some (.val (.int (A.st 0 (nth i))))) (some (.val (.int (B.st 0 (nth i))))) (some (.val (.tuple [Wd a, Wd b]))) (some (.val (Wd (nth i)))) (some (.val (rowD q1))) (some (.val (rowD q2))) x12 x13 x14 x15 x16 U2 (fun j hj => by
            rw [List.length_append, List.length_singleton]
            rcases List.mem_append.mp hj with hj | hj
            · have := hlen j hj
              omega
            · simp at hj
              rcases hj with rfl | rfl
              · rw [nth1, List.length_append, List.length_singleton]; omega
              · rw [nth2, List.length_append, List.length_singleton]; omega) (by simp only [List.length_append, List.length_cons, List.length_nil]; omega)
          rw [List.map_append, List.map_cons, List.map_cons, List.map_nil, wt0, wt1] at fin
          simpa [rowD, mvD, mm] using fin _ _ _ _ _ _
      · rw [if_neg c]
        have ns : ¬ SameAt A B f1 f2 (nth i) := fun z => c (sm.mp z)
        exact hq (some (nth i)) ⟨i, rfl, ns, U.found hi ns⟩
  · rintro ⟨⟨is, p, seen⟩, x5, x6, x7, x8, x9, x10, x11, x12, x13, x14, x15, x16⟩ ⟨U, hlen⟩ ht
    simp at ht
    have := hq none fun v => U.stop (List.getElem?_eq_none ht) v
    simp
    exact this
def F_alike : DF := fun ds q => ∃ (f1 : List Bool) (r1 : List Row) (f2 : List Bool) (r2 : List Row), ds = [macD f1 r1, macD f2 r2] ∧ Slim 1000 f1 r1 ∧ Slim 1000 f2 r2 ∧ r1.length * r2.length ≤ 1000 ∧
  ∀ o, FirstU (runR f1 r1) (runR f2 r2) o → q (.bool o.isNone) .none
theorem pl_alike : PL_alike F_alike F_first_unlike := by
  intro ds q a0 _ h
  obtain ⟨f1, r1, f2, r2, rfl, S1, S2, hm, hq⟩ := h
  simp [t_alike]
  refine ⟨f1, r1, f2, r2, rfl, S1, S2, hm, fun o ho => ?_⟩
  have := hq o ho
  cases o with
  | none => simpa [optD] using this
  | some w => simpa [optD] using this
end DL
namespace DL
--plain
open Sy
/-! ### one machine, then another one -/
def pSy (A B : Sy) (n : Nat) : Sy where
  w := fun p t => B.out (p % n) (A.w (p / n) t)
  g := fun p t => A.g (p / n) t * n + B.st (p % n) (A.w (p / n) t)
  e := fun p => B.run (p % n) (A.e (p / n))
theorem code_div {n s t : Nat} (h : t < n) : (s * n + t) / n = s ∧ (s * n + t) % n = t := by
  refine ⟨?_, ?_⟩
  · rw [Nat.mul_comm, Nat.mul_add_div (by omega), Nat.div_eq_of_lt h, Nat.add_zero]
  · rw [Nat.mul_comm, Nat.mul_add_mod, Nat.mod_eq_of_lt h]
theorem code_lt {m n s t : Nat} (hs : s < m) (ht : t < n) : s * n + t < m * n := by
  have : (s + 1) * n ≤ m * n := Nat.mul_le_mul_right _ hs
  rw [Nat.succ_mul] at this
  omega
theorem code_back {m n p : Nat} (h : p < m * n) : p / n < m ∧ p % n < n := by
  have n0 : 0 < n := by
    cases n with
    | zero => simp at h
    | succ n => omega
  exact ⟨(Nat.div_lt_iff_lt_mul n0).mpr h, Nat.mod_lt _ n0⟩
theorem code_inj {n a b : Nat} (h1 : a / n = b / n) (h2 : a % n = b % n) : a = b := by
  rw [← Nat.div_add_mod a n, ← Nat.div_add_mod b n, h1, h2]
section
variable {A B : Sy} {m n : Nat} (hA : ∀ s a, s < m → A.g s a < m) (hB : ∀ s w, s < n → B.st s w < n)
include hB
theorem pSy_run : ∀ (v : List Bool) (s t : Nat), t < n → (pSy A B n).run (s * n + t) v = B.run t (A.run s v)
  | [], s, t, ht => by
    obtain ⟨e1, e2⟩ := code_div (s := s) ht
    show B.run ((s * n + t) % n) (A.e ((s * n + t) / n)) = _
    rw [e1, e2]
    rfl
  | a :: v, s, t, ht => by
    obtain ⟨e1, e2⟩ := code_div (s := s) ht
    show B.out ((s * n + t) % n) (A.w ((s * n + t) / n) a) ++ (pSy A B n).run (A.g ((s * n + t) / n) a * n + B.st ((s * n + t) % n) (A.w ((s * n + t) / n) a)) v = B.run t (A.w s a ++ A.run (A.g s a) v)
    rw [e1, e2, pSy_run v _ _ (hB _ _ ht), run_out]
include hA
theorem pSy_closed : (pSy A B n).Closed (List.range (m * n)) := fun p hp a => by
  have hp := List.mem_range.mp hp
  obtain ⟨h1, h2⟩ := code_back hp
  exact List.mem_range.mpr (code_lt (hA _ _ h1) (hB _ _ h2))
end
/-- the rows told in the order in which states are come to write what the states write -/
theorem num_run {S : Sy} {xs f : List Nat} {ls : List RowN} (h : NumInv S xs (fun p => p) f ls) (hl : f.length = ls.length) : ∀ (v : List Bool) (k s : Nat), f[k]? = some s → (syOf ls).run k v = S.run s v := by
  have mid : f.map (fun p => p) = f := by simp
  have row : ∀ k s, f[k]? = some s → ∃ l : RowN, ls[k]? = some l ∧ l.1.1 = S.w s false ∧ f[l.1.2]? = some (S.g s false) ∧ l.2.1.1 = S.w s true ∧ f[l.2.1.2]? = some (S.g s true) ∧ l.2.2 = S.e s := fun k s hk => by
    have lk := (List.getElem?_eq_some_iff.mp hk).1
    rw [hl] at lk
    have e := List.getElem?_eq_getElem lk
    obtain ⟨y, a1, a2, a3, a4, a5, a6⟩ := h.row k _ e
    rw [hk] at a1
    cases a1
    rw [mid] at a3 a5
    exact ⟨_, e, a2, a3, a4, a5, a6⟩
  intro v
  induction v with
  | nil =>
    intro k s hk
    obtain ⟨l, e, _, _, _, _, a6⟩ := row k s hk
    show (syOf ls).e k = S.e s
    simp only [syOf, e]
    exact a6
  | cons t v ih =>
    intro k s hk
    obtain ⟨l, e, a2, a3, a4, a5, _⟩ := row k s hk
    show (syOf ls).w k t ++ (syOf ls).run ((syOf ls).g k t) v = S.w s t ++ S.run (S.g s t) v
    cases t with
    | false =>
      have e1 : (syOf ls).w k false = S.w s false := by simp [syOf, e, a2]
      have e2 : (syOf ls).g k false = l.1.2 := by simp [syOf, e]
      rw [e1, e2, ih _ _ a3]
    | true =>
      have e1 : (syOf ls).w k true = S.w s true := by simp [syOf, e, a4]
      have e2 : (syOf ls).g k true = l.2.1.2 := by simp [syOf, e]
      rw [e1, e2, ih _ _ a5]
theorem num_rowsIn {S : Sy} {xs f : List Nat} {ls : List RowN} (h : NumInv S xs (fun p => p) f ls) (hl : f.length = ls.length) (h0 : 0 < f.length) : rowsIn ls := by
  refine ⟨by omega, fun r hr => ?_⟩
  obtain ⟨k, hk⟩ := List.getElem?_of_mem hr
  obtain ⟨y, a1, a2, a3, a4, a5, a6⟩ := h.row k r hk
  have b3 := (List.getElem?_eq_some_iff.mp a3).1
  have b5 := (List.getElem?_eq_some_iff.mp a5).1
  rw [List.length_map] at b3 b5
  omega
/-- the states of both machines, as they are come to -/
theorem join_ok {f1 f2 : List Bool} {r1 r2 : List RowN} (h1 : rowsIn r1) (h2 : rowsIn r2) :
    ∃ f ls, numGo (pSy (syOf r1) (syOf r2) r2.length) (fun p => p) (r1.length * r2.length + 1) [(syOf r2).st 0 f1] [] = (f, ls) ∧ f.length = ls.length ∧ NumInv (pSy (syOf r1) (syOf r2) r2.length) (List.range (r1.length * r2.length)) (fun p => p) f ls ∧ rowsIn ls ∧ ls.length ≤ r1.length * r2.length ∧
      ∀ v, runR (f2 ++ (syOf r2).out 0 f1) ls v = runR f2 r2 (runR f1 r1 v) := by
  have hA : ∀ s a, s < r1.length → (syOf r1).g s a < r1.length := fun s a h => h1.lt s a h
  have hB : ∀ (w : List Bool) (s : Nat), s < r2.length → (syOf r2).st s w < r2.length := fun w => by
    induction w with
    | nil => intro s hs; exact hs
    | cons a w ih => intro s hs; exact ih _ (h2.lt s a hs)
  have hB' : ∀ s w, s < r2.length → (syOf r2).st s w < r2.length := fun s w h => hB w s h
  have z := hB f1 0 h2.1
  have z0 : (syOf r2).st 0 f1 < r1.length * r2.length := by
    have := code_lt (s := 0) h1.1 z
    omega
  have i0 : NumInv (pSy (syOf r1) (syOf r2) r2.length) (List.range (r1.length * r2.length)) (fun p => p) [(syOf r2).st 0 f1] [] := ⟨fun s hs => by simp at hs; subst hs; exact List.mem_range.mpr z0, by simp, by simp, fun k l hk => by simp at hk⟩
  have g := numGo_ok (pSy_closed hA hB') (r1.length * r2.length + 1) _ _ i0 (by simp)
  cases hZ : numGo (pSy (syOf r1) (syOf r2) r2.length) (fun p => p) (r1.length * r2.length + 1) [(syOf r2).st 0 f1] [] with
  | mk F L =>
  rw [hZ] at g
  obtain ⟨g1, g2, g3, _⟩ := g
  simp only at g1 g2 g3
  refine ⟨F, L, rfl, g2, g1, ?_, ?_, fun v => ?_⟩
  · refine num_rowsIn g1 g2 ?_
    have := g3.length_le
    simp at this
    omega
  · rw [← g2]
    have := g1.short
    simpa using this
  · have f0 : F[0]? = some ((syOf r2).st 0 f1) := by
      obtain ⟨r, hr⟩ := g3
      rw [← hr]
      rfl
    have e := num_run g1 g2 v 0 _ f0
    have p := pSy_run (A := syOf r1) hB' v 0 ((syOf r2).st 0 f1) z
    rw [Nat.zero_mul, Nat.zero_add] at p
    unfold runR
    rw [e, p, run_out, List.append_assoc]
end DL
namespace DL
open PySem PySem.Spec PyProof.Rows L2
open Sy
/-! ### joined -/
def cdD (n : Nat) (p : Nat) : PyData := prD (p / n, p % n)
theorem keyBT_cd (n a b : Nat) : keyBT (cdD n a) (cdD n b) = decide (a = b) := by
  unfold cdD
  rw [keyBT_pr]
  refine decide_eq_decide.mpr ⟨fun h => ?_, fun h => by rw [h]⟩
  obtain ⟨h1, h2⟩ := Prod.mk.inj h
  exact code_inj h1 h2
theorem cdD_code {n s t : Nat} (h : t < n) : cdD n (s * n + t) = .tuple [.int s, .int t] := by
  obtain ⟨e1, e2⟩ := code_div (s := s) h
  unfold cdD prD
  rw [e1, e2]
theorem Slim.word {B : Nat} {f : List Bool} {rows : List Row} (h : Slim B f rows) (s : Nat) (t : Bool) : ((syOf rows).w s t).length ≤ B := by
  unfold syOf
  simp only
  split
  · rename_i r e
    have := h.r r (List.mem_of_getElem? e)
    split <;> omega
  · simp
theorem cd_get {n g p : Nat} (h : p < n) (xs : List Nat) : dGetT (numG (cdD n) 0 xs) (.tuple [.int g, .int p]) = if g * n + p ∈ xs then some (.int (xs.idxOf (g * n + p) : Nat)) else none := by
  rw [← cdD_code h]
  exact numT_get (keyBT_cd n) _ xs
theorem cd_put {n g p : Nat} (h : p < n) {xs : List Nat} (m : g * n + p ∉ xs) : dPutT (numG (cdD n) 0 xs) (.tuple [.int g, .int p]) (.int (xs.length : Nat)) = numG (cdD n) 0 (xs ++ [g * n + p]) := by
  rw [← cdD_code h]
  exact numT_put (keyBT_cd n) m
def F_joined : DF := fun ds q => ∃ (f1 : List Bool) (r1 : List Row) (f2 : List Bool) (r2 : List Row), ds = [macD f1 r1, macD f2 r2] ∧ Slim 900 f1 r1 ∧ Slim 900 f2 r2 ∧ r1.length * r2.length ≤ 1000 ∧
  ∀ g ps, rowsIn ps → ps.length ≤ r1.length * r2.length → (∀ v, runR g ps v = runR f2 r2 (runR f1 r1 v)) → q (macD (lfM g ps).1 (lfM g ps).2) .none
theorem pl_joined : PL_joined F_joined F_check_machine F_walked_on F_least_form := by
  intro ds q a0 _ h
  obtain ⟨f1, r1, f2, r2, rfl, S1, S2, hm, hq⟩ := h
  let A := syOf r1
  let B := syOf r2
  let n := r2.length
  let P := pSy A B n
  have mm : ∀ f rows, macD f rows = .tuple [Wd f, .list (rows.map rowD)] := fun _ _ => rfl
  have c1 := S1.ok (by decide)
  have c2 := S2.ok (by decide)
  have l1 := S1.f
  have l2 := S2.f
  have hA : ∀ s a, s < r1.length → A.g s a < r1.length := fun s a h => S1.ins.lt s a h
  have hB : ∀ s w, s < n → B.st s w < n := fun s w h => S2.lt w s h
  have W : ∀ s w, s < n → walk r2 s w = (B.out s w, B.st s w) := fun s w hs => walk_st r2 w s S2.ins hs
  have z0 : B.st 0 f1 < n := hB 0 f1 S2.ins.1
  have o0 : (B.out 0 f1).length ≤ 900 * 900 := Nat.le_trans (S2.out f1 0) (Nat.mul_le_mul_left _ l1)
  obtain ⟨F, LS, eg, hFL, NI, rin, many, sem⟩ := join_ok (f1 := f1) (f2 := f2) S1.ins S2.ins
  have pc := pSy_closed (A := A) (B := B) hA hB
  simp [t_joined]
  refine ⟨f1, r1, rfl, c1, ?_⟩
  simp
  refine ⟨f2, r2, rfl, c2, ?_⟩
  simp [mm]
  refine ⟨r2, 0, f1, rfl, c2.2.2, S2.ins.1, by omega, by rw [W 0 f1 S2.ins.1]; simp only; omega, ?_⟩
  rw [W 0 f1 S2.ins.1]
  have ik : ∀ a b : Int, isKeyT (.tuple [.int a, .int b]) = true := fun _ _ => rfl
  simp [ik]
  intro p8 p9 p10
  have e0 : PyData.tuple [PyData.int 0, PyData.int (B.st 0 f1)] = cdD n (B.st 0 f1) := by
    have := cdD_code (s := 0) z0
    rw [Nat.zero_mul, Nat.zero_add] at this
    exact this.symm
  rw [e0]
  refine while_at (α := (List Nat × List Row) × Int × Option Cell × Option Cell × Option Cell × Option Cell × Option Cell × Option Cell × Option Cell)
    (fun z => [some (.val (macD f1 r1)), some (.val (macD f2 r2)), some (.val (Wd f1)), some (.val (.list (r1.map rowD))), some (.val (Wd f2)), some (.val (.list (r2.map rowD))), some (.val (Wd (B.out 0 f1))), some (.val (.int z.2.1)), some (.own p8 (.list (z.1.1.map (cdD n)))), some (.own p9 (.dict ((.none, .none) :: numG (cdD n) 0 z.1.1))), some (.own p10 (.list (z.1.2.map rowD))), z.2.2.1, z.2.2.2.1, z.2.2.2.2.1, z.2.2.2.2.2.1, z.2.2.2.2.2.2.1, z.2.2.2.2.2.2.2.1, z.2.2.2.2.2.2.2.2])
    (fun z => NumInv P (List.range (r1.length * n)) (fun p => p) z.1.1 z.1.2 ∧ ∃ k, numGo P (fun p => p) k z.1.1 z.1.2 = (F, LS) ∧ r1.length * n < k + z.1.2.length)
    (fun z => r1.length * n + 1 - z.1.2.length) (fun z => decide (z.1.2.length < z.1.1.length)) (x0 := (([B.st 0 f1], []), B.st 0 f1, none, none, none, none, none, none, none)) ⟨?_, r1.length * n + 1, eg, by simp⟩ ?_ ?_ ?_
  · have z0' : B.st 0 f1 < r1.length * n := by
      have := code_lt (s := 0) (m := r1.length) S1.ins.1 z0
      omega
    exact ⟨fun s hs => by simp at hs; subst hs; exact List.mem_range.mpr z0', by simp, by simp, fun k l hk => by simp at hk⟩
  · rintro ⟨⟨f, ls⟩, x7, x11, x12, x13, x14, x15, x16, x17⟩ _ K hK
    simp at hK ⊢
    exact hK
  · rintro ⟨⟨f, ls⟩, x7, x11, x12, x13, x14, x15, x16, x17⟩ ⟨inv, k, e, ln⟩ ht N hN
    simp at e ln ht hN inv
    obtain ⟨c, hc⟩ : ∃ c, f[ls.length]? = some c := ⟨_, List.getElem?_eq_getElem ht⟩
    have mc := inv.mem c (List.mem_of_getElem? hc)
    have cl := List.mem_range.mp mc
    obtain ⟨sl, tl⟩ := code_back cl
    have st := (inv.step pc hc).1
    have sh := st.short
    have fle := inv.short
    rw [List.length_range] at sh fle
    have hmn : r1.length * n ≤ 1000 := hm
    obtain ⟨r, hr⟩ : ∃ r, r1[c / n]? = some r := ⟨_, List.getElem?_eq_getElem sl⟩
    have gr := sy_row hr
    have w0 : P.w c false = B.out (c % n) r.1.1 := by show B.out (c % n) (A.w (c / n) false) = _; rw [show A.w (c / n) false = r.1.1 from gr.1]
    have w1 : P.w c true = B.out (c % n) r.2.1.1 := by show B.out (c % n) (A.w (c / n) true) = _; rw [show A.w (c / n) true = r.2.1.1 from gr.2.1]
    have g0 : P.g c false = r.1.2 * n + B.st (c % n) r.1.1 := by show A.g (c / n) false * n + B.st (c % n) (A.w (c / n) false) = _; rw [show A.w (c / n) false = r.1.1 from gr.1, show A.g (c / n) false = r.1.2 from gr.2.2.1]
    have g1 : P.g c true = r.2.1.2 * n + B.st (c % n) r.2.1.1 := by show A.g (c / n) true * n + B.st (c % n) (A.w (c / n) true) = _; rw [show A.w (c / n) true = r.2.1.1 from gr.2.1, show A.g (c / n) true = r.2.1.2 from gr.2.2.2.1]
    have we : P.e c = B.out (c % n) r.2.2 ++ B.e (B.st (c % n) r.2.2) := by
      show B.run (c % n) (A.e (c / n)) = _
      rw [show A.e (c / n) = r.2.2 from gr.2.2.2.2]
      have := B.run_out r.2.2 [] (c % n)
      rw [List.append_nil] at this
      exact this
    have rw_ := S1.r r (List.mem_of_getElem? hr)
    have ob : ∀ (w : List Bool), w.length ≤ 900 → (B.out (c % n) w).length ≤ 900 * 900 := fun w hw => Nat.le_trans (S2.out w (c % n)) (Nat.mul_le_mul_left _ hw)
    have o1 := ob _ rw_.1
    have o2 := ob _ rw_.2.1
    have o3 := ob _ rw_.2.2
    have p1 := hB (c % n) r.1.1 tl
    have p2 := hB (c % n) r.2.1.1 tl
    have p3 := hB (c % n) r.2.2 tl
    obtain ⟨re, hre⟩ : ∃ y, r2[B.st (c % n) r.2.2]? = some y := ⟨_, List.getElem?_eq_getElem p3⟩
    have gre := sy_row hre
    have ree := S2.r re (List.mem_of_getElem? hre)
    have fin := fun x7 x11 x12 x13 x14 x15 x16 x17 => hN (numStep P (fun p => p) f c).1 (ls ++ [(numStep P (fun p => p) f c).2]) x7 x11 x12 x13 x14 x15 x16 x17 st (k - 1) (by
      rw [← e]
      cases k with
      | zero => omega
      | succ k => rw [numGo_some hc]; rfl) (by simp; omega) (by simp; omega)
    have fl1 : (numStep P (fun p => p) f c).1.length ≤ 1000 := Nat.le_trans sh hmn
    have mid : ∀ l : List Nat, l.map (fun p => p) = l := fun l => by simp
    have cc : cdD n c = .tuple [.int (c / n : Nat), .int (c % n : Nat)] := rfl
    generalize c / n = s at *
    generalize c % n = t at *
    have ge : B.e (B.st t r.2.2) = re.2.2 := gre.2.2.2.2
    rw [ge] at we
    have bw : ∀ (w : List Bool), w.length ≤ 900 → (walk r2 t w).1.length ≤ 16777216 ∧ walk r2 t w = (B.out t w, B.st t w) := fun w hw => by
      have := ob w hw
      refine ⟨?_, W t w tl⟩
      rw [W t w tl]
      simp only
      omega
    have row_ : rowD r = .tuple [.tuple [Wd r.1.1, .int r.1.2], .tuple [Wd r.2.1.1, .int r.2.1.2], Wd r.2.2] := rfl
    have rowe : rowD re = .tuple [.tuple [Wd re.1.1, .int re.1.2], .tuple [Wd re.2.1.1, .int re.2.1.2], Wd re.2.2] := rfl
    simp [hc, cc, hr, row_]
    intro p11
    refine ⟨r2, t, r.1.1, rfl, c2.2.2, tl, by omega, (bw _ rw_.1).1, ?_⟩
    rw [(bw _ rw_.1).2]
    simp [ik, cd_get p1]
    by_cases c0 : r.1.2 * n + B.st t r.1.1 ∈ f
    · simp [c0]
      refine ⟨r2, t, r.2.1.1, rfl, c2.2.2, tl, by omega, (bw _ rw_.2.1).1, ?_⟩
      rw [(bw _ rw_.2.1).2]
      simp [ik, cd_get p2, -List.mem_append]
      by_cases c1 : r.2.1.2 * n + B.st t r.2.1.1 ∈ f
      · have z : numStep P (fun p => p) f c = (f, (P.w c false, (f).idxOf (P.g c false)), (P.w c true, (f).idxOf (P.g c true)), P.e c) := by
          unfold numStep
          simp only [mid, g0, g1, if_pos c0, if_pos c1]
        rw [z, w0, w1, g0, g1, we] at fin
        rw [z] at fl1
        try simp only [List.length_append, List.length_singleton] at fl1
        simp [c1, ik, cd_get p2, hr, row_, -List.mem_append]
        refine ⟨r2, t, r.2.2, rfl, c2.2.2, tl, by omega, (bw _ rw_.2.2).1, ?_⟩
        rw [(bw _ rw_.2.2).2]
        simp [hre, rowe]
        refine ⟨by omega, by omega, ?_⟩
        simpa [rowD, mvD, cdD_code p1, cdD_code p2] using fin _ _ _ _ _ _ _ _
      · have z : numStep P (fun p => p) f c = (f ++ [P.g c true], (P.w c false, (f).idxOf (P.g c false)), (P.w c true, (f ++ [P.g c true]).idxOf (P.g c true)), P.e c) := by
          unfold numStep
          simp only [mid, g0, g1, if_pos c0, if_neg c1]
        rw [z, w0, w1, g0, g1, we] at fin
        rw [z] at fl1
        try simp only [List.length_append, List.length_singleton] at fl1
        have pt := cd_put p2 c1
        have pt' := pt
        rw [← List.length_map (f := cdD n) (as := f)] at pt'
        try simp only [List.length_append, List.length_singleton, Int.natCast_add, Int.natCast_one] at pt
        simp [c1, ik, pt, pt', numG_len, cd_get p2, hr, row_, mem_snoc, -List.mem_append, -List.append_assoc]
        refine ⟨by omega, ?_⟩
        refine ⟨r2, t, r.2.2, rfl, c2.2.2, tl, by omega, (bw _ rw_.2.2).1, ?_⟩
        rw [(bw _ rw_.2.2).2]
        simp [hre, rowe, pt, pt', numG_len, -List.append_assoc]
        refine ⟨by omega, by omega, ?_⟩
        simpa [rowD, mvD, cdD_code p1, cdD_code p2] using fin _ _ _ _ _ _ _ _
    · have pt0 := cd_put p1 c0
      have pt0' := pt0
      rw [← List.length_map (f := cdD n) (as := f)] at pt0'
      simp [c0, ik, pt0, pt0', numG_len, cd_get p1, mem_snoc, -List.mem_append, -List.append_assoc]
      refine ⟨by omega, ?_⟩
      refine ⟨r2, t, r.2.1.1, rfl, c2.2.2, tl, by omega, (bw _ rw_.2.1).1, ?_⟩
      rw [(bw _ rw_.2.1).2]
      simp [ik, cd_get p2, pt0, pt0', -List.mem_append, -List.append_assoc]
      by_cases c1 : r.2.1.2 * n + B.st t r.2.1.1 ∈ f ++ [r.1.2 * n + B.st t r.1.1]
      · have z : numStep P (fun p => p) f c = (f ++ [r.1.2 * n + B.st t r.1.1], (P.w c false, (f ++ [r.1.2 * n + B.st t r.1.1]).idxOf (P.g c false)), (P.w c true, (f ++ [r.1.2 * n + B.st t r.1.1]).idxOf (P.g c true)), P.e c) := by
          unfold numStep
          simp only [mid, g0, g1, if_neg c0, if_pos c1]
        rw [z, w0, w1, g0, g1, we] at fin
        rw [z] at fl1
        try simp only [List.length_append, List.length_singleton] at fl1
        simp [c1, ik, cd_get p2, hr, row_, pt0, pt0', -List.mem_append, -List.append_assoc]
        refine ⟨r2, t, r.2.2, rfl, c2.2.2, tl, by omega, (bw _ rw_.2.2).1, ?_⟩
        rw [(bw _ rw_.2.2).2]
        simp [hre, rowe, pt0, pt0', numG_len, -List.append_assoc]
        refine ⟨by omega, by omega, ?_⟩
        simpa [rowD, mvD, cdD_code p1, cdD_code p2] using fin _ _ _ _ _ _ _ _
      · have z : numStep P (fun p => p) f c = (f ++ [r.1.2 * n + B.st t r.1.1] ++ [P.g c true], (P.w c false, (f ++ [r.1.2 * n + B.st t r.1.1]).idxOf (P.g c false)), (P.w c true, (f ++ [r.1.2 * n + B.st t r.1.1] ++ [P.g c true]).idxOf (P.g c true)), P.e c) := by
          unfold numStep
          simp only [mid, g0, g1, if_neg c0, if_neg c1]
        rw [z, w0, w1, g0, g1, we] at fin
        rw [z] at fl1
        try simp only [List.length_append, List.length_singleton] at fl1
        have pt := cd_put p2 c1
        have pt' := pt
        rw [← List.length_map (f := cdD n) (as := f ++ [r.1.2 * n + B.st t r.1.1])] at pt'
        try simp only [List.length_append, List.length_singleton, Int.natCast_add, Int.natCast_one] at pt
        simp [c1, ik, pt, pt', pt0, pt0', numG_len, cd_get p2, hr, row_, mem_snoc, -List.mem_append, -List.append_assoc]
        refine ⟨by omega, ?_⟩
        refine ⟨r2, t, r.2.2, rfl, c2.2.2, tl, by omega, (bw _ rw_.2.2).1, ?_⟩
        rw [(bw _ rw_.2.2).2]
        simp [hre, rowe, pt, pt', pt0, pt0', numG_len, -List.append_assoc]
        refine ⟨by omega, by omega, ?_⟩
        simpa [rowD, mvD, cdD_code p1, cdD_code p2] using fin _ _ _ _ _ _ _ _
  · rintro ⟨⟨f, ls⟩, x7, x11, x12, x13, x14, x15, x16, x17⟩ ⟨inv, k, e, ln⟩ ht
    simp at e ln ht inv
    have sh := inv.short
    have le := inv.le
    have es : (f, ls) = (F, LS) := by
      rw [← e]
      cases k with
      | zero =>
        simp at sh
        omega
      | succ k => rw [numGo_none (List.getElem?_eq_none ht)]
    cases es
    simp
    refine ⟨by omega, ?_⟩
    refine ⟨f2 ++ B.out 0 f1, LS, by simp, rin, ⟨by omega, fun r hr => ?_⟩, by rw [List.length_append]; omega, ?_⟩
    · obtain ⟨k, hk⟩ := List.getElem?_of_mem hr
      obtain ⟨y, _, a2, _, a4, _, a6⟩ := NI.row k r hk
      have ob : ∀ s (w : List Bool), w.length ≤ 900 → (B.out s w).length ≤ 900 * 900 := fun s w hw => Nat.le_trans (S2.out w s) (Nat.mul_le_mul_left _ hw)
      have b1 := ob (y % n) _ (S1.word (y / n) false)
      have b2 := ob (y % n) _ (S1.word (y / n) true)
      have b3 := ob (y % n) _ (S1.end_ (y / n))
      have b4 := S2.end_ (B.st (y % n) (A.e (y / n)))
      have a6' : r.2.2 = B.out (y % n) (A.e (y / n)) ++ B.e (B.st (y % n) (A.e (y / n))) := by
        rw [a6]
        have := B.run_out (A.e (y / n)) [] (y % n)
        rw [List.append_nil] at this
        exact this
      refine ⟨?_, ?_, ?_⟩
      · rw [a2]; exact Nat.le_trans b1 (by omega)
      · rw [a4]; exact Nat.le_trans b2 (by omega)
      · rw [a6', List.length_append]
        have b4 : (B.e (B.st (y % n) (A.e (y / n)))).length ≤ 900 := b4
        have b3 : (B.out (y % n) (A.e (y / n))).length ≤ 900 * 900 := b3
        omega
    · exact hq _ _ rin many sem
end DL
namespace DL
open PySem PySem.Spec PyProof.Rows L2
/-! ### a machine near to a drawn one -/
theorem shOk.up {many top top' : Nat} {f : List Bool} {rows : List Row} (h : shOk many top f rows) (l : top ≤ top') : shOk many top' f rows := ⟨by have := h.1; omega, h.2.1, fun r hr => by have := h.2.2 r hr; omega⟩
def rowL (r : Row) : List PyData := [mvD r.1, mvD r.2.1, Wd r.2.2]
theorem rowL_flat (r : Row) : flats (rowL r) = true := rfl
theorem row_tup (r : Row) : rowD r = .tuple (rowL r) := rfl
def F_law_bk_near : DF := fun ds q => ∃ (d : PyData) (n many top : Nat) (f : List Bool) (rows : List Row), ds = [d, macD f rows, .int top] ∧ PuOk n d ∧ n < 10000 ∧ top ≤ 100 ∧ 0 < many ∧ many ≤ 100 ∧ shOk many top f rows ∧
  ∀ (f' : List Bool) (rows' : List Row) (d' : PyData), shOk many top f' rows' → PuOk (n + 500) d' → q (macD f' rows') d'
theorem pl_law_bk_near : PL_law_bk_near F_law_bk_near F_law_coin F_law_bk_way := by
  intro ds q a _ h
  obtain ⟨d, n, many, top, f, rows, rfl, hd, hn, ht, hm0, hm, hsh, hq⟩ := h
  have mm : ∀ f rows, macD f rows = .tuple [Wd f, .list (rows.map rowD)] := fun _ _ => rfl
  simp [t_law_bk_near, mm, -e_forGo1]
  refine grid_at rowD rowL rows rfl (fun r hr Q hQ => ?_) (fun r _ => rowL_flat r) (by have := hsh.2.1; omega) ?_
  · simp [row_tup]
    exact hQ _ rfl
  simp [-e_forGo1]
  intro p pas
  refine ⟨d, n, 3, rfl, hd, by omega, by omega, by omega, fun k1 d1 hk1 hd1 => ?_⟩
  simp [-e_forGo1]
  refine ⟨by omega, ?_⟩
  refine for_at (α := Nat) (β := (List Bool × List Row × PyData × Nat) × Option Cell × Option Cell × Option Cell × Option Cell) (fun k => PyData.int k)
    (fun b => [some (.own a b.1.2.2.1), some (.val (macD f rows)), some (.val (.int top)), b.2.1, some (.val (Wd b.1.1)), some (.grid p pas (b.1.2.1.map rowL)), b.2.2.1, b.2.2.2.1, b.2.2.2.2, none])
    (fun r b => shOk many top b.1.1 b.1.2.1 ∧ PuOk b.1.2.2.2 b.1.2.2.1 ∧ b.1.2.2.2 + 200 * r.length ≤ n + 1 + 400) ?_ ?_ (List.range k1) ((f, rows, d1, n + 1), none, none, none, none) ⟨hsh, hd1, by simp; omega⟩
  · rintro ⟨⟨f', rows', d2, n2⟩, x3, x6, x7, x8⟩ ⟨h1, h2, h3⟩
    simp at h1 h2 h3
    simp [gridD]
    refine lc_at (fun r : Row => PyData.list (rowL r)) rowD rows' (by cases x3 <;> cases x6 <;> cases x7 <;> cases x8 <;> rfl) (fun r hr Q1 Q2 hQ => ?_) (by have := h1.2.1; omega) ?_
    · simp [rowL]
      exact hQ _ (by cases x3 <;> cases x6 <;> cases x7 <;> cases x8 <;> rfl)
    simp
    exact hq f' rows' d2 h1 (h2.mono (by omega))
  · rintro k r ⟨⟨f', rows', d2, n2⟩, x3, x6, x7, x8⟩ ⟨h1, h2, h3⟩ N hN
    simp at h1 h2 h3 hN
    have l1 := h1.2.1
    simp
    refine ⟨d2, n2, many, by rw [l1], h2, by omega, by omega, by omega, fun s1 d3 hs1 hd3 => ?_⟩
    simp
    refine ⟨d3, n2 + 1, 2, rfl, hd3, by omega, by omega, by omega, fun s2 d4 hs2 hd4 => ?_⟩
    simp
    refine ⟨d4, n2 + 2, 4, rfl, hd4, by omega, by omega, by omega, fun s3 d5 hs3 hd5 => ?_⟩
    obtain ⟨r0, hr0⟩ : ∃ r, rows'[s1]? = some r := ⟨_, List.getElem?_eq_getElem (by omega)⟩
    have q0 := h1.2.2 r0 (List.mem_of_getElem? hr0)
    have put : ∀ r1 : Row, r1.1.1.length ≤ top ∧ r1.1.2 < many ∧ r1.2.1.1.length ≤ top ∧ r1.2.1.2 < many ∧ r1.2.2.length ≤ top → shOk many top f' (rows'.set s1 r1) := fun r1 h => ⟨h1.1, by rw [List.length_set]; exact l1, fun x hx => by
      rcases List.mem_or_eq_of_mem_set hx with z | z
      · exact h1.2.2 x z
      · rw [z]; exact h⟩
    have at0 : (rows'.map rowL)[s1]? = some (rowL r0) := by rw [List.getElem?_map, hr0]; rfl
    have ix1 : ixN (rows'.map rowL).length (s1 : Int) = some s1 := by rw [List.length_map]; exact ixN_nat (by omega)
    have gl : (rows'.map rowL).length = many := by rw [List.length_map]; exact l1
    have rl : rowL r0 = [.tuple [Wd r0.1.1, .int r0.1.2], .tuple [Wd r0.2.1.1, .int r0.2.1.2], Wd r0.2.2] := rfl
    have fin : ∀ (r1 : Row) (d' : PyData) (m : Nat) (x3 x6 x7 x8 : Option Cell), r1.1.1.length ≤ top ∧ r1.1.2 < many ∧ r1.2.1.1.length ≤ top ∧ r1.2.1.2 < many ∧ r1.2.2.length ≤ top → PuOk m d' → m ≤ n2 + 200 →
        N [some (.own a d'), some (.val (macD f rows)), some (.val (.int top)), x3, some (.val (Wd f')), some (.grid p pas ((rows'.map rowL).set s1 (rowL r1))), x6, x7, x8, none] := fun r1 d' m x3 x6 x7 x8 h hd' hm' => by
      have := hN f' (rows'.set s1 r1) d' m x3 x6 x7 x8 (put r1 h) hd' (by omega)
      rw [List.map_set] at this
      exact this
    have fin2 := fun (w : List Bool) (d' : PyData) (m : Nat) (x3 x6 x7 x8 : Option Cell) (hw : w.length ≤ top) (hd' : PuOk m d') (hm' : m ≤ n2 + 200) => hN w rows' d' m x3 x6 x7 x8 ⟨hw, h1.2⟩ hd' (by omega)
    generalize rows'.map rowL = G at *
    have i0 : ixN 3 0 = some 0 := rfl
    have i1 : ixN 3 1 = some 1 := rfl
    have i2 : ixN 3 2 = some 2 := rfl
    simp
    by_cases z0 : s3 = 0
    · rw [if_pos z0]
      refine ⟨d5, n2 + 3, top, rfl, hd5, by omega, by omega, fun w d6 hw hd6 => ?_⟩
      simp [ix1, at0, rl, i2]
      exact fin (r0.1, r0.2.1, w) d6 _ _ _ _ _ ⟨q0.1, q0.2.1, q0.2.2.1, q0.2.2.2.1, hw⟩ hd6 (by omega)
    rw [if_neg z0]
    by_cases z1 : s3 = 1
    · rw [if_pos (by omega)]
      refine ⟨d5, n2 + 3, top, rfl, hd5, by omega, by omega, fun w d6 hw hd6 => ?_⟩
      rcases (show s2 = 0 ∨ s2 = 1 by omega) with rfl | rfl
      · simp [ix1, at0, rl, i0]
        exact fin ((w, r0.1.2), r0.2.1, r0.2.2) d6 _ _ _ _ _ ⟨hw, q0.2⟩ hd6 (by omega)
      · simp [ix1, at0, rl, i1]
        exact fin (r0.1, (w, r0.2.1.2), r0.2.2) d6 _ _ _ _ _ ⟨q0.1, q0.2.1, hw, q0.2.2.2⟩ hd6 (by omega)
    rw [if_neg (by omega)]
    by_cases z2 : s3 = 2
    · rw [if_pos (by omega)]
      rcases (show s2 = 0 ∨ s2 = 1 by omega) with rfl | rfl
      · simp [ix1, at0, rl, i0]
        refine ⟨d5, n2 + 3, many, by rw [gl], hd5, by omega, by omega, by omega, fun j d6 hj hd6 => ?_⟩
        simp [ix1, at0, rl, i0]
        exact fin ((r0.1.1, j), r0.2.1, r0.2.2) d6 _ _ _ _ _ ⟨q0.1, hj, q0.2.2⟩ hd6 (by omega)
      · simp [ix1, at0, rl, i1]
        refine ⟨d5, n2 + 3, many, by rw [gl], hd5, by omega, by omega, by omega, fun j d6 hj hd6 => ?_⟩
        simp [ix1, at0, rl, i1]
        exact fin (r0.1, (r0.2.1.1, j), r0.2.2) d6 _ _ _ _ _ ⟨q0.1, q0.2.1, q0.2.2.1, hj, q0.2.2.2.2⟩ hd6 (by omega)
    rw [if_neg (by omega)]
    refine ⟨d5, n2 + 3, top, rfl, hd5, by omega, by omega, fun w d6 hw hd6 => ?_⟩
    simp
    exact fin2 w d6 (n2 + 3 + top + 1) _ _ _ _ hw hd6 (by omega)
end DL
namespace DL
open PySem PySem.Spec PyProof.Rows L2
/-! ### a machine that writes its turns later -/
theorem cutD_len {α : Type} (xs : List α) (lo hi : Option Int) : (cutD xs lo hi).length ≤ xs.length := by
  unfold cutD
  rw [List.length_take, List.length_drop]
  omega
theorem cutW (w : List Bool) (lo hi : Option Int) : ∃ u : List Bool, S (cutD (enc w) lo hi) = Wd u ∧ u.length ≤ w.length := ⟨cutD w lo hi, by rw [cut_enc], cutD_len w lo hi⟩
theorem lcf_at {α : Type} {g : DTG} {tt : DTT} {te : DT} {vs : List Nat} {ρ : DEnv} (f : α → PyData) (r : α → PyData) (keep : α → Bool) (xs : List α) {q : PyData → DEnv → Prop} (hp : plainC ρ vs = true)
    (step : ∀ x ∈ xs, ∀ (Q1 : PyData → DEnv → Prop) (Q2 : DEnv → Prop), (keep x = true → ∀ ρ4, backD ρ ρ4 vs = ρ → Q1 (r x) ρ4) → (keep x = false → ∀ ρ4, backD ρ ρ4 vs = ρ → Q2 ρ4) → g (f x) (wipeD ρ vs) fun ρ1 => tt ρ1 fun b ρ2 => if b = true then te ρ2 fun o ρ3 => o.tk ρ3 Q1 else Q2 ρ2)
    (hl : xs.length ≤ 16777216) (h : q (.list ((xs.filter keep).map r)) ρ) : lcGo g tt te vs (xs.map f) [] ρ q := by
  have go : ∀ (ys : List α) (acc : List PyData), (∀ y ∈ ys, y ∈ xs) → acc.length + ys.length ≤ 16777216 → q (.list (acc ++ (ys.filter keep).map r)) ρ → lcGo g tt te vs (ys.map f) acc ρ q := by
    intro ys
    induction ys with
    | nil =>
      intro acc _ _ h
      simpa [lcGo] using h
    | cons y ys ih =>
      intro acc hm hl h
      rw [List.length_cons] at hl
      refine step y (hm y (List.mem_cons_self ..)) _ _ (fun k ρ4 e => ⟨by omega, by rw [e]; exact hp, ?_⟩) fun k ρ4 e => ⟨by rw [e]; exact hp, ?_⟩
      · rw [e]
        refine ih (acc ++ [r y]) (fun z hz => hm z (List.mem_cons_of_mem _ hz)) (by rw [List.length_append, List.length_singleton]; omega) ?_
        rw [List.filter_cons_of_pos k, List.map_cons] at h
        rw [List.append_assoc]
        exact h
      · rw [e]
        refine ih acc (fun z hz => hm z (List.mem_cons_of_mem _ hz)) (by omega) ?_
        rw [List.filter_cons_of_neg (by simp [k])] at h
        exact h
  exact go xs [] (fun _ h => h) (by simpa using hl) h
theorem seq_of {u v : DTS} {E : DEnds} {ρ : DEnv} (P : DEnv → Prop) (h1 : ∀ N : DEnv → Prop, (∀ ρ', P ρ' → N ρ') → u { E with nx := N } ρ) (h2 : ∀ ρ', P ρ' → v E ρ') : sSeq u v E ρ := h1 _ h2
def F_law_bk_pulled : DF := fun ds q => ∃ (many top : Nat) (f : List Bool) (rows : List Row) (s : Nat), ds = [macD f rows, .int s] ∧ top ≤ 100 ∧ s < many ∧ many ≤ 100 ∧ shOk many top f rows ∧ ∀ (f' : List Bool) (rows' : List Row), shOk many (2 * top) f' rows' → q (macD f' rows') .none
theorem pl_law_bk_pulled : PL_law_bk_pulled F_law_bk_pulled := by
  intro ds q a _ h
  obtain ⟨many, top, f, rows, s, rfl, ht, hs, hm, hsh, hq⟩ := h
  have mm : ∀ f rows, macD f rows = .tuple [Wd f, .list (rows.map rowD)] := fun _ _ => rfl
  have row_ : ∀ r : Row, rowD r = .tuple [.tuple [Wd r.1.1, .int r.1.2], .tuple [Wd r.2.1.1, .int r.2.1.2], Wd r.2.2] := fun _ => rfl
  obtain ⟨h1, h2, h3⟩ := hsh
  have first : ∃ ls : List (List Bool), (∀ w ∈ ls, w.length ≤ top) ∧ ls.length ≤ 1 ∧ (if s = 0 then [S (cutD (enc f) (some (-1)) none)] else []) = ls.map Wd := by
    by_cases c : s = 0
    · obtain ⟨u, e, l⟩ := cutW f (some (-1)) none
      exact ⟨[u], by simp; omega, by simp, by rw [if_pos c, e]; rfl⟩
    · exact ⟨[], by simp, by simp, by rw [if_neg c]; rfl⟩
  unfold t_law_bk_pulled
  refine seq_of (fun ρ' => ∃ ls : List (List Bool), (∀ w ∈ ls, w.length ≤ top) ∧ ls.length ≤ 1 ∧ ρ' = [some (.val (macD f rows)), some (.val (.int s)), some (.val (.list (ls.map Wd))), none, none, none, none, none, none, none, none, none]) ?_ ?_
  · intro N hN
    obtain ⟨ls, a1, a2, a3⟩ := first
    simp [mm]
    by_cases c : s = 0
    · rw [if_pos c] at a3 ⊢
      refine ⟨by omega, ?_⟩
      rw [a3]
      exact hN _ ⟨ls, a1, a2, rfl⟩
    · rw [if_neg c]
      exact hN _ ⟨[], by simp, by simp, rfl⟩
  rintro _ ⟨ls0, b1, b2, rfl⟩
  refine seq_of (fun ρ' => ∃ (ls : List (List Bool)) (x3 : Option Cell), (∀ w ∈ ls, w.length ≤ top) ∧ ls.length ≤ 1 + 2 * many ∧ ρ' = [some (.val (macD f rows)), some (.val (.int s)), some (.val (.list (ls.map Wd))), x3, none, none, none, none, none, none, none, none]) ?_ ?_
  · intro N hN
    simp [mm, -e_forGo1]
    refine for_at (α := Row) (β := List (List Bool) × Option Cell) rowD (fun b => [some (.val (macD f rows)), some (.val (.int s)), some (.val (.list (b.1.map Wd))), b.2, none, none, none, none, none, none, none, none])
      (fun r b => (∀ w ∈ b.1, w.length ≤ top) ∧ b.1.length + 2 * r.length ≤ 1 + 2 * many ∧ ∀ x ∈ r, x ∈ rows) ?_ ?_ rows (ls0, none) ⟨b1, by simp; omega, fun _ h => h⟩
    · rintro ⟨ls, x3⟩ ⟨c1, c2, c3⟩
      simp at c1 c2
      exact hN _ ⟨ls, x3, c1, by omega, rfl⟩
    · rintro r rs ⟨ls, x3⟩ ⟨c1, c2, c3⟩ M hM
      simp at c1 c2 c3 hM
      simp [-e_lcP1]
      refine lcf_at (fun k : Nat => PyData.int k) (fun k => S (cutD (enc (mvOf r (decide (k = 1))).1) (some (-1)) none)) (fun k => decide ((mvOf r (decide (k = 1))).2 = s)) (List.range 2) rfl (fun k hk Q1 Q2 hQ1 hQ2 => ?_) (by decide) ?_
      · have hk := List.mem_range.mp hk
        have r3 := h3 r c3.1
        rcases (show k = 0 ∨ k = 1 by omega) with rfl | rfl
        · simp [mvOf, row_] at hQ1 hQ2 ⊢
          by_cases c : r.1.2 = s
          · rw [if_pos c]
            refine ⟨by omega, hQ1 c _ rfl⟩
          · rw [if_neg c]
            exact hQ2 c _ rfl
        · simp [mvOf, row_] at hQ1 hQ2 ⊢
          by_cases c : r.2.1.2 = s
          · rw [if_pos c]
            refine ⟨by omega, hQ1 c _ rfl⟩
          · rw [if_neg c]
            exact hQ2 c _ rfl
      have r3 := h3 r c3.1
      obtain ⟨us, ue, ul, un⟩ : ∃ us : List (List Bool), ((List.range 2).filter fun k => decide ((mvOf r (decide (k = 1))).2 = s)).map (fun k => S (cutD (enc (mvOf r (decide (k = 1))).1) (some (-1)) none)) = us.map Wd ∧ (∀ w ∈ us, w.length ≤ top) ∧ us.length ≤ 2 := by
        refine ⟨((List.range 2).filter fun k => decide ((mvOf r (decide (k = 1))).2 = s)).map (fun k => cutD (mvOf r (decide (k = 1))).1 (some (-1)) none), ?_, fun w hw => ?_, ?_⟩
        · rw [List.map_map]
          exact List.map_congr_left fun k _ => by rw [cut_enc]; rfl
        · obtain ⟨k, _, rfl⟩ := List.mem_map.mp hw
          refine Nat.le_trans (cutD_len _ _ _) ?_
          unfold mvOf
          split <;> omega
        · rw [List.length_map]
          exact List.length_filter_le _ _
      rw [ue]
      simp
      refine ⟨by omega, ?_⟩
      have := hM (ls ++ us) (some (.val (rowD r))) (fun w hw => by
        rcases List.mem_append.mp hw with h | h
        · exact c1 w h
        · exact ul w h) (by simp; omega) c3.2
      simpa using this
  rintro _ ⟨ls, x3, c1, c2, rfl⟩
  have same : q (macD f rows) .none := hq f rows (shOk.up ⟨h1, h2, h3⟩ (by omega))
  have shl := shaped_list ls
  have el := eqv_list ls []
  simp only [List.map_nil] at el
  have sh0 := shaped_list []
  simp only [List.map_nil] at sh0
  refine seq_of (fun ρ' => ∃ (w0 : List Bool) (ls' : List (List Bool)), ls = w0 :: ls' ∧ ρ' = [some (.val (macD f rows)), some (.val (.int s)), some (.val (.list (ls.map Wd))), x3, none, none, none, none, none, none, none, none]) ?_ ?_
  · intro N hN
    simp [mm, shl, -e_sSeq]
    rw [el]
    simp [sh0, -e_sSeq]
    by_cases c0 : ls = []
    · rw [if_pos c0]
      exact same
    rw [if_neg c0]
    cases ls with
    | nil => exact absurd rfl c0
    | cons w0 ls' =>
      have ok := hN _ ⟨w0, ls', rfl, rfl⟩
      simp [-e_lcP1]
      by_cases c1 : w0 = []
      · rw [if_pos c1]
        exact same
      rw [if_neg c1]
      have mc : (Wd w0 :: ls'.map Wd) = (w0 :: ls').map Wd := rfl
      rw [mc]
      refine lc_at Wd (fun _ => Wd w0) (w0 :: ls') (by cases x3 <;> rfl) (fun w hw Q1 Q2 hQ => ?_) (by simp at c2 ⊢; omega) ?_
      · simp
        exact hQ _ (by cases x3 <;> rfl)
      have e2 : (w0 :: ls').map (fun _ => Wd w0) = ((w0 :: ls').map fun _ => w0).map Wd := by rw [List.map_map]; rfl
      rw [e2]
      have eq2 := eqv_list (w0 :: ls') ((w0 :: ls').map fun _ => w0)
      have sh2 := shaped_list ((w0 :: ls').map fun _ => w0)
      have sh1 := shaped_list (w0 :: ls')
      simp only [List.map_cons] at eq2 sh2 sh1 ⊢
      simp [sh1, sh2, eq2]
      split
      · exact ⟨by simpa using sh2, ok⟩
      · exact ⟨by simpa using sh2, same⟩
  rintro _ ⟨w0, ls', rfl, rfl⟩
  have lw := c1 w0 (List.mem_cons_self ..)
  generalize hL : PyData.list ((w0 :: ls').map Wd) = LD
  have ld : ∀ K : PyData → Prop, K (Wd w0) → gIx LD (.int 0) K := fun K hK => by
    rw [← hL]
    simp
    exact hK
  rw [e_sSeq]
  simp [-e_sSeq]
  intro p4
  refine seq_of (fun ρ' => ∃ (out : List Row) (x5 x6 x7 x8 x9 : Option Cell), out.length = many ∧ (∀ r ∈ out, r.1.1.length ≤ 2 * top ∧ r.1.2 < many ∧ r.2.1.1.length ≤ 2 * top ∧ r.2.1.2 < many ∧ r.2.2.length ≤ 2 * top) ∧ ρ' = [some (.val (macD f rows)), some (.val (.int s)), some (.val LD), x3, some (.own p4 (.list (out.map rowD))), x5, x6, x7, x8, x9, none, none]) ?_ ?_
  · intro N hN
    simp [mm, h2, -e_forGo1]
    refine ⟨by omega, ?_⟩
    refine for_idx (β := List Row × Option Cell × Option Cell × Option Cell × Option Cell × Option Cell) (fun b => [some (.val (macD f rows)), some (.val (.int s)), some (.val LD), x3, some (.own p4 (.list (b.1.map rowD))), b.2.1, b.2.2.1, b.2.2.2.1, b.2.2.2.2.1, b.2.2.2.2.2, none, none])
      (fun k b => b.1.length = k ∧ ∀ r ∈ b.1, r.1.1.length ≤ 2 * top ∧ r.1.2 < many ∧ r.2.1.1.length ≤ 2 * top ∧ r.2.1.2 < many ∧ r.2.2.length ≤ 2 * top) many ?_ ?_ ([], none, none, none, none, none) ⟨rfl, fun _ h => nomatch h⟩
    · rintro ⟨out, x5, x6, x7, x8, x9⟩ ⟨d1, d2⟩
      exact hN _ ⟨out, x5, x6, x7, x8, x9, d1, d2, rfl⟩
    · rintro k ⟨out, x5, x6, x7, x8, x9⟩ hk ⟨d1, d2⟩ M hM
      simp only at d1 d2
      obtain ⟨r, hr⟩ : ∃ r, rows[k]? = some r := ⟨_, List.getElem?_eq_getElem (by omega)⟩
      have r3 := h3 r (List.mem_of_getElem? hr)
      rw [e_tgN]
      refine seq_of (fun ρ' => ∃ put : List Bool, put.length ≤ top ∧ ρ' = [some (.val (macD f rows)), some (.val (.int s)), some (.val LD), x3, some (.own p4 (.list (out.map rowD))), some (.val (.int k)), some (.val (Wd put)), x7, x8, x9, none, none]) ?_ ?_
      · intro N2 hN2
        simp
        by_cases c : k = s
        · rw [if_pos c]
          refine ld _ ?_
          exact hN2 _ ⟨w0, lw, rfl⟩
        · rw [if_neg c]
          exact hN2 _ ⟨[], by simp, rfl⟩
      rintro _ ⟨put, pl, rfl⟩
      have r3' := r3
      have fin := fun (w1 w2 : List Bool) (hw1 : w1.length ≤ 2 * top) (hw2 : w2.length ≤ 2 * top) (x7 x8 x9 : Option Cell) => hM (out ++ [((w1, r.1.2), (w2, r.2.1.2), put ++ r.2.2)], some (.val (.int k)), some (.val (Wd put)), x7, x8, x9) ⟨by simp; omega, fun x hx => by
        rcases List.mem_append.mp hx with h | h
        · exact d2 x h
        · rw [List.mem_singleton.mp h]
          simp only [List.length_append]
          omega⟩
      simp only [List.map_append, List.map_cons, List.map_nil, row_] at fin
      have cl1 := cutD_len r.1.1 none (some (-1))
      have cl2 := cutD_len r.2.1.1 none (some (-1))
      simp [mm, hr, row_, cut_enc]
      intro p7
      by_cases g1 : r.1.2 = s
      · rw [if_pos g1]
        refine ⟨by omega, by omega, ?_⟩
        by_cases g2 : r.2.1.2 = s
        · rw [if_pos g2]
          refine ⟨by omega, by omega, by omega, by omega, ?_⟩
          simpa [mm] using fin (put ++ cutD r.1.1 none (some (-1))) (put ++ cutD r.2.1.1 none (some (-1))) (by rw [List.length_append]; omega) (by rw [List.length_append]; omega) _ _ _
        · rw [if_neg g2]
          refine ⟨by omega, by omega, by omega, ?_⟩
          simpa [mm] using fin (put ++ cutD r.1.1 none (some (-1))) (put ++ r.2.1.1) (by rw [List.length_append]; omega) (by rw [List.length_append]; omega) _ _ _
      · rw [if_neg g1]
        refine ⟨by omega, ?_⟩
        by_cases g2 : r.2.1.2 = s
        · rw [if_pos g2]
          refine ⟨by omega, by omega, by omega, by omega, ?_⟩
          simpa [mm] using fin (put ++ r.1.1) (put ++ cutD r.2.1.1 none (some (-1))) (by rw [List.length_append]; omega) (by rw [List.length_append]; omega) _ _ _
        · rw [if_neg g2]
          refine ⟨by omega, by omega, by omega, ?_⟩
          simpa [mm] using fin (put ++ r.1.1) (put ++ r.2.1.1) (by rw [List.length_append]; omega) (by rw [List.length_append]; omega) _ _ _
  rintro _ ⟨out, x5, x6, x7, x8, x9, d1, d2, rfl⟩
  have cl := cutD_len f none (some (-1))
  simp [mm, cut_enc]
  by_cases c : s = 0
  · rw [if_pos c]
    refine ⟨by omega, ?_⟩
    exact hq _ out ⟨by omega, d1, d2⟩
  · rw [if_neg c]
    exact hq f out ⟨by omega, d1, d2⟩
end DL
namespace DL
open PySem PySem.Spec PyProof.Rows L2
open Sy
/-! ### the law -/
theorem eqv_rowD (x y : Row) : PyData.eqv (rowD x) (rowD y) = decide (x = y) := by
  obtain ⟨⟨a, b⟩, ⟨c, d⟩, e⟩ := x
  obtain ⟨⟨a', b'⟩, ⟨c', d'⟩, e'⟩ := y
  show ((PyData.eqv (Wd a) (Wd a') && (PyData.eqv (.int b) (.int b') && true)) && ((PyData.eqv (Wd c) (Wd c') && (PyData.eqv (.int d) (.int d') && true)) && (PyData.eqv (Wd e) (Wd e') && true))) = _
  rw [eqv_Wd, eqv_Wd, eqv_Wd, eqv_int, eqv_int, Bool.eq_iff_iff]
  simp [and_assoc]
theorem eqv_rowsD : ∀ (a b : List Row), PyData.eqv (.list (a.map rowD)) (.list (b.map rowD)) = decide (a = b)
  | [], [] => rfl
  | [], _ :: _ => rfl
  | _ :: _, [] => rfl
  | x :: a, y :: b => by
    have ih := eqv_rowsD a b
    show (PyData.eqv (rowD x) (rowD y) && PyData.eqv (.list (a.map rowD)) (.list (b.map rowD))) = _
    rw [eqv_rowD, ih, Bool.eq_iff_iff]
    simp
theorem eqv_macD (f g : List Bool) (a b : List Row) : PyData.eqv (macD f a) (macD g b) = decide ((f, a) = (g, b)) := by
  show (PyData.eqv (Wd f) (Wd g) && (PyData.eqv (.list (a.map rowD)) (.list (b.map rowD)) && true)) = _
  rw [eqv_Wd, eqv_rowsD, Bool.eq_iff_iff]
  simp
theorem sh_slim {many top : Nat} {f : List Bool} {rows : List Row} (h : shOk many top f rows) (hm : 0 < many) : Slim top f rows := by
  obtain ⟨a, b, c⟩ := h
  refine ⟨⟨by omega, fun r hr => ?_⟩, a, fun r hr => ?_⟩
  · have := c r hr
    omega
  · have := c r hr
    omega
theorem Slim.up {B B' : Nat} {f : List Bool} {rows : List Row} (h : Slim B f rows) (l : B ≤ B') : Slim B' f rows := ⟨h.ins, by have := h.f; omega, fun r hr => by have := h.r r hr; omega⟩
theorem firstU_uniq {R1 R2 : List Bool → List Bool} : ∀ {o o' : Option (List Bool)}, FirstU R1 R2 o → FirstU R1 R2 o' → o = o'
  | none, none, _, _ => rfl
  | none, some v, h, ⟨i, _, n, _⟩ => absurd (h _) n
  | some v, none, ⟨i, _, n, _⟩, h => absurd (h _) n
  | some v, some v', ⟨i, e, n, l⟩, ⟨j, e', n', l'⟩ => by
    have : i = j := by
      rcases Nat.lt_trichotomy i j with h | h | h
      · exact absurd (l' i h) n
      · exact h
      · exact absurd (l j h) n'
    rw [e, e', this]
/-- the places at which two tables part -/
def partsAt (R1 R2 : List Bool → List Bool) (K : Nat) : List Nat := (List.range K).filter fun k => decide (R1 (nth k) ≠ R2 (nth k))
def firstOf : List Nat → Option (List Bool)
  | [] => none
  | k :: _ => some (nth k)
theorem filter_head {p : Nat → Bool} {n k : Nat} {r : List Nat} (h : (List.range n).filter p = k :: r) : k < n ∧ p k = true ∧ ∀ j, j < k → p j = false := by
  have mk : k ∈ (List.range n).filter p := by rw [h]; exact List.mem_cons_self ..
  rw [List.mem_filter, List.mem_range] at mk
  refine ⟨mk.1, mk.2, fun j hj => ?_⟩
  cases c : p j with
  | false => rfl
  | true =>
    exfalso
    have mj : j ∈ (List.range n).filter p := by rw [List.mem_filter, List.mem_range]; exact ⟨by omega, c⟩
    have inc : ((List.range n).filter p).Pairwise (· < ·) := List.pairwise_lt_range.sublist List.filter_sublist
    rw [h] at mj inc
    rcases List.mem_cons.mp mj with e | e
    · omega
    · have := (List.pairwise_cons.mp inc).1 j e
      omega
theorem first_parts {f g : List Bool} {rows rs : List Row} (h1 : rowsIn rows) (h2 : rowsIn rs) {n : Nat} (hn : n = rows.length + rs.length - 1) : FirstU (runR f rows) (runR g rs) (firstOf (partsAt (runR f rows) (runR g rs) (2 ^ (n + 1) - 1))) := by
  cases c : partsAt (runR f rows) (runR g rs) (2 ^ (n + 1) - 1) with
  | nil =>
    refine alike_bound h1 h2 fun v hv => ?_
    have : v ∈ roadsTo n := (roads_mem n v).mpr (by omega)
    unfold roadsTo at this
    obtain ⟨i, hi, rfl⟩ := List.mem_map.mp this
    refine Classical.byContradiction fun ne => ?_
    have : i ∈ partsAt (runR f rows) (runR g rs) (2 ^ (n + 1) - 1) := List.mem_filter.mpr ⟨hi, decide_eq_true ne⟩
    rw [c] at this
    cases this
  | cons k r =>
    obtain ⟨a, b, d⟩ := filter_head c
    exact ⟨k, rfl, of_decide_eq_true b, fun j hj => Classical.byContradiction fun ne => by
      have := d j hj
      rw [decide_eq_true ne] at this
      cases this⟩
/-- the least form told back -/
theorem told_back {f : List Bool} {rows : List Row} (h : rowsIn rows) {n : Nat} (hn : (lfM f rows).2.length ≤ n) : mfT (runR f rows) n (roadsTo (n - 1)) (roadsTo (2 * n - 1)) = some (lfM f rows) :=
  mf_least h hn (fun _ _ => rfl) (roads_mem _) fun v hv => (roads_mem _ v).mp hv
theorem lf_slim {f : List Bool} {rows : List Row} (h : rowsIn rows) {n B : Nat} (h1 : 1 ≤ n) (hn : (lfM f rows).2.length ≤ n) (hb : ∀ v : List Bool, v.length ≤ 2 * n - 1 → (runR f rows v).length ≤ B) : Slim B (lfM f rows).1 (lfM f rows).2 := by
  have := mf_words h1 hb (told_back h hn)
  exact ⟨(lf_rows h f).1, this.1, this.2⟩
def F_law_right : DF := fun ds q => ∃ (d : PyData) (n : Nat), ds = [d] ∧ PuOk n d ∧ n < 1000 ∧ ∀ e, q (.bool true) e
end DL
namespace DL
open PySem PySem.Spec PyProof.Rows L2
open Sy
@[simp ↓] theorem e_dAndV {ta tb : DT} {ρ : DEnv} {q : OV → DEnv → Prop} : dAndV ta tb ρ q = (ta ρ fun o ρ' => o.rd ρ' fun d => match d with
  | .bool b => if b = true then tb ρ' q else q (.vl (.bool false)) ρ'
  | _ => False) := id rfl
theorem pl_law_right : PL_law_right F_law_right F_law_bk_shape F_law_coin F_law_bk_near F_law_bk_pulled F_table_of F_law_bk_texts F_law_bk_run F_least F_alike F_first_unlike F_machine_from F_joined := by
  intro ds q a _ h
  obtain ⟨d, n, rfl, hd, hn, hq⟩ := h
  have mm : ∀ f rows, macD f rows = .tuple [Wd f, .list (rows.map rowD)] := fun _ _ => rfl
  have e3 : ∀ k : Nat, (1 : Int) + (k : Int) = ((1 + k : Nat) : Int) := fun k => by omega
  unfold t_law_right
  refine seq_of (fun ρ' => ∃ (f : List Bool) (rows : List Row) (d' : PyData) (many : Nat), shOk many 3 f rows ∧ 0 < many ∧ many ≤ 3 ∧ PuOk (n + 100) d' ∧ ρ' = [some (.own a d'), some (.val (macD f rows))] ++ List.replicate 16 none) ?_ ?_
  · intro N hN
    simp
    refine ⟨d, n, 3, rfl, hd, by omega, by omega, by omega, fun k1 d1 hk1 hd1 => ?_⟩
    simp
    refine ⟨d1, n + 1, 3, rfl, hd1, by omega, by omega, by omega, fun k2 d2 hk2 hd2 => ?_⟩
    simp
    rw [e3, e3]
    have pw : (3 * (1 + k2) + 5) * (1 + k1 + 1) ≤ 14 * 4 := Nat.mul_le_mul (by omega) (by omega)
    refine ⟨d2, n + 2, 1 + k1, 1 + k2, rfl, hd2, by omega, by omega, by omega, by omega, fun f rows d3 hsh hd3 => ?_⟩
    simp
    exact hN _ ⟨f, rows, d3, 1 + k1, hsh.up (by omega), by omega, by omega, hd3.mono (by omega), rfl⟩
  rintro _ ⟨f, rows, d1, many, hsh, hm0, hm3, hd1, rfl⟩
  refine seq_of (fun ρ' => ∃ (g : List Bool) (rs : List Row) (d' : PyData), Slim 6 g rs ∧ rs.length ≤ 3 ∧ PuOk (n + 600) d' ∧ ρ' = [some (.own a d'), some (.val (macD f rows)), some (.val (macD g rs))] ++ List.replicate 15 none) ?_ ?_
  · intro N hN
    simp
    refine ⟨d1, n + 100, many, 3, f, rows, rfl, hd1, by omega, by omega, hm0, by omega, hsh, fun g rs d2 hsh2 hd2 => ?_⟩
    simp
    exact hN _ ⟨g, rs, d2, (sh_slim hsh2 hm0).up (by omega), by rw [hsh2.2.1]; exact hm3, hd2, rfl⟩
  rintro _ ⟨g0, rs0, d2, S0, l0, hd2, rfl⟩
  rw [e_sSeq]
  simp [-e_sSeq]
  refine ⟨d2, n + 600, 4, rfl, hd2, by omega, by omega, by omega, fun pick d3 hpick hd3 => ?_⟩
  have sb : ∀ b, SeqAt.shaped (PyData.bool b) = true := fun b => by cases b <;> decide
  simp [-e_sSeq]
  refine seq_of (fun ρ' => ∃ (g : List Bool) (rs : List Row) (d' : PyData), Slim 6 g rs ∧ rs.length ≤ 3 ∧ PuOk (n + 700) d' ∧ ρ' = [some (.own a d'), some (.val (macD f rows)), some (.val (macD g rs)), some (.val (.int pick))] ++ List.replicate 14 none) ?_ ?_
  · intro N hN
    simp
    by_cases c : pick = 0
    · rw [if_pos c]
      refine ⟨d3, n + 601, 3, rfl, hd3, by omega, by omega, by omega, fun k1 d4 hk1 hd4 => ?_⟩
      simp
      rw [e3]
      have pw : (3 * 2 + 5) * (1 + k1 + 1) ≤ 11 * 4 := Nat.mul_le_mul (by omega) (by omega)
      refine ⟨d4, n + 602, 1 + k1, 2, rfl, hd4, by omega, by omega, by omega, by omega, fun g rs d5 hsh2 hd5 => ?_⟩
      simp
      exact hN _ ⟨g, rs, d5, (sh_slim hsh2 (by omega)).up (by omega), by rw [hsh2.2.1]; omega, hd5.mono (by omega), rfl⟩
    · rw [if_neg c]
      exact hN _ ⟨g0, rs0, d3, S0, l0, hd3.mono (by omega), rfl⟩
  rintro _ ⟨g1, rs1, d4, S1, l1, hd4, rfl⟩
  refine seq_of (fun ρ' => ∃ (g : List Bool) (rs : List Row) (d' : PyData), Slim 6 g rs ∧ rs.length ≤ 3 ∧ PuOk (n + 800) d' ∧ ρ' = [some (.own a d'), some (.val (macD f rows)), some (.val (macD g rs)), some (.val (.int pick))] ++ List.replicate 14 none) ?_ ?_
  · intro N hN
    simp
    by_cases c : pick = 1
    · rw [if_pos (by omega)]
      simp [mm, hsh.2.1]
      refine ⟨d4, n + 700, many, rfl, hd4, by omega, by omega, by omega, fun k1 d5 hk1 hd5 => ?_⟩
      simp
      refine ⟨many, 3, f, rows, k1, rfl, by omega, hk1, by omega, hsh, fun g rs hsh2 => ?_⟩
      simp
      exact hN _ ⟨g, rs, d5, (sh_slim hsh2 (by omega)).up (by omega), by rw [hsh2.2.1]; omega, hd5.mono (by omega), rfl⟩
    · rw [if_neg (by omega)]
      exact hN _ ⟨g1, rs1, d4, S1, l1, hd4.mono (by omega), rfl⟩
  rintro _ ⟨g, rs, d5, S2, l2, hd5, rfl⟩
  have S1' : Slim 3 f rows := sh_slim hsh hm0
  clear S0 S1 l0 l1
  have rl : rows.length ≤ 3 := by rw [hsh.2.1]; exact hm3
  have r0 := S1'.ins.1
  have s0 := S2.ins.1
  obtain ⟨nn, hnn⟩ : ∃ nn, nn = rows.length + rs.length - 1 := ⟨_, rfl⟩
  have n5 : nn ≤ 5 := by omega
  rw [e_sSeq]
  simp [mm, -e_sSeq]
  have ei : ((rows.length : Int) + (rs.length : Int) - 1) = (nn : Int) := by omega
  rw [ei]
  simp only [← mm]
  have okA := S1'.ok (by decide)
  have okB := S2.ok (by decide)
  have mA : ∀ w, runM f rows w = runR f rows w := fun w => runM_R S1'.ins w
  have mB : ∀ w, runM g rs w = runR g rs w := fun w => runM_R S2.ins w
  have bA : ∀ w : List Bool, w.length ≤ 5 → (runR f rows w).length ≤ 21 := fun w hw => Nat.le_trans (S1'.run w) (by omega)
  have bB : ∀ w : List Bool, w.length ≤ 5 → (runR g rs w).length ≤ 42 := fun w hw => Nat.le_trans (S2.run w) (by omega)
  have tab : ∀ (f : List Bool) (rows : List Row) (k : Nat), rowsIn rows → ((roadsTo k).map fun w => Wd (runM f rows w)) = ((roadsTo k).map (runR f rows)).map Wd := fun f rows k h => by
    rw [List.map_map]
    exact List.map_congr_left fun w _ => by rw [runM_R h]; rfl
  rw [e_sSeq]
  simp [-e_sSeq]
  refine ⟨f, rows, nn, rfl, okA, by omega, fun w hw => by rw [mA]; have := bA w (by omega); omega, ?_⟩
  simp [-e_sSeq]
  refine ⟨g, rs, nn, rfl, okB, by omega, fun w hw => by rw [mB]; have := bB w (by omega); omega, ?_⟩
  rw [tab f rows nn S1'.ins, tab g rs nn S2.ins]
  simp [-e_sSeq, -List.map_map]
  rw [e_sSeq]
  simp [-e_sSeq, -List.map_map]
  refine ⟨nn, rfl, by omega, ?_⟩
  simp [-e_sSeq, -List.map_map]
  generalize hwA : (roadsTo nn).map (runR f rows) = wA
  generalize hwB : (roadsTo nn).map (runR g rs) = wB
  obtain ⟨K, hK⟩ : ∃ K, K = 2 ^ (nn + 1) - 1 := ⟨_, rfl⟩
  have K63 : K ≤ 63 := by
    have : 2 ^ (nn + 1) ≤ 2 ^ 6 := Nat.pow_le_pow_right (by decide) (by omega)
    omega
  have lA : wA.length = K := by rw [← hwA, List.length_map, roads_many, hK]
  have lB : wB.length = K := by rw [← hwB, List.length_map, roads_many, hK]
  have atA : ∀ k, k < K → wA[k]? = some (runR f rows (nth k)) := fun k hk => by
    rw [← hwA, List.getElem?_map, roadsTo, List.getElem?_map, List.getElem?_range (by omega)]
    rfl
  have atB : ∀ k, k < K → wB[k]? = some (runR g rs (nth k)) := fun k hk => by
    rw [← hwB, List.getElem?_map, roadsTo, List.getElem?_map, List.getElem?_range (by omega)]
    rfl
  have atR : ∀ k, k < K → (roadsTo nn)[k]? = some (nth k) := fun k hk => by
    rw [roadsTo, List.getElem?_map, List.getElem?_range (by omega)]
    rfl
  have shl := shaped_list
  rw [e_sSeq]
  simp [-e_sSeq, shl]
  refine lc_at Wd (fun w => Wd (runM f rows w)) (roadsTo nn) rfl (fun w hw Q1 Q2 hQ => ?_) (by rw [roads_many]; omega) ?_
  · have lw := roads_len hw
    have := bA w (by omega)
    simp
    refine ⟨f, rows, w, rfl, okA.2.2, okA.2.1, by omega, by rw [mA]; omega, ?_⟩
    simp
    exact hQ _ rfl
  rw [tab f rows nn S1'.ins, hwA]
  simp [-e_sSeq, shl, eqv_list, lA, lB]
  rw [e_sSeq]
  simp [-e_sSeq, lA]
  refine ⟨by omega, ?_⟩
  refine lcf_at (fun k : Nat => PyData.int k) (fun k => Wd (nth k)) (fun k => decide (runR f rows (nth k) ≠ runR g rs (nth k))) (List.range K) rfl (fun k hk Q1 Q2 hQ1 hQ2 => ?_) (by simp; omega) ?_
  · have hk := List.mem_range.mp hk
    simp [atA k hk, atB k hk, atR k hk]
    by_cases c : runR f rows (nth k) = runR g rs (nth k)
    · rw [if_pos c]
      exact hQ2 (by simp [c]) _ rfl
    · rw [if_neg c]
      exact hQ1 (by simp [c]) _ rfl
  have FU := first_parts (f := f) (g := g) S1'.ins S2.ins hnn
  have hU : (List.range K).filter (fun k => decide (runR f rows (nth k) ≠ runR g rs (nth k))) = partsAt (runR f rows) (runR g rs) (2 ^ (nn + 1) - 1) := by rw [← hK]; rfl
  rw [hU]
  generalize partsAt (runR f rows) (runR g rs) (2 ^ (nn + 1) - 1) = U at FU
  have eU : U.map (fun k => Wd (nth k)) = (U.map nth).map Wd := by rw [List.map_map]; rfl
  rw [eU]
  simp [-e_sSeq, -List.map_map]
  have hb : decide (U.map nth = []) = (firstOf U).isNone := by cases U <;> simp [firstOf]
  have hl : decide (lfM f rows = lfM g rs) = (firstOf U).isNone := by
    cases U with
    | nil =>
      have := lf_eq S1'.ins S2.ins FU
      simp [firstOf, this]
    | cons k r =>
      obtain ⟨i, e, ne, _⟩ := FU
      have : lfM f rows ≠ lfM g rs := fun z => ne (by
        rw [← lf_run S1'.ins f (nth i), ← lf_run S2.ins g (nth i), z])
      simp [firstOf, this]
  have eb : ∀ x y : Bool, PyData.eqv (.bool x) (.bool y) = decide (x = y) := fun x y => by cases x <;> cases y <;> decide
  have el := eqv_list (U.map nth) []
  rw [hb] at el
  simp only [List.map_nil] at el
  have sh0 := shaped_list []
  simp only [List.map_nil] at sh0
  have m9 : rows.length * rs.length ≤ 3 * 3 := Nat.mul_le_mul rl l2
  have w1 : wordsIn rows := S1'.words (by decide) (by omega)
  have w2 : wordsIn rs := S2.words (by decide) (by omega)
  have f1 := S1'.f
  have f2 := S2.f
  let ENV : DEnv := [some (.own a d5), some (.val (macD f rows)), some (.val (macD g rs)), some (.val (.int pick)), some (.val (.int nn)), some (.val (.list ((roadsTo nn).map Wd))), some (.val (.list ((U.map nth).map Wd))), none, none, none, none, some (.val (.list (wA.map Wd))), some (.val (.list (wB.map Wd))), none, none, none, none, none]
  refine seq_of (fun ρ' => ρ' = ENV) ?_ ?_
  · intro N hN
    simp [-List.map_map]
    refine ⟨f, rows, g, rs, rfl, S1'.up (by decide), S2.up (by decide), by omega, fun o ho => ?_⟩
    obtain rfl := firstU_uniq ho FU
    simp [sb, shl, el, sh0, eb, -List.map_map]
    refine ⟨f, rows, rfl, S1'.ins, w1, by omega, ?_⟩
    simp [-List.map_map]
    refine ⟨g, rs, rfl, S2.ins, w2, by omega, ?_⟩
    have ee := eqv_macD (lfM f rows).1 (lfM g rs).1 (lfM f rows).2 (lfM g rs).2
    have ep : ∀ x : List Bool × List Row, (x.1, x.2) = x := fun _ => rfl
    rw [ep, ep, hl] at ee
    simp [sb, shl, el, sh0, eb, ee, -List.map_map]
    exact hN _ rfl
  rintro _ rfl
  refine seq_of (fun ρ' => ρ' = ENV) ?_ ?_
  · intro N hN
    simp [ENV, -List.map_map]
    refine ⟨f, rows, g, rs, rfl, S1'.up (by decide), S2.up (by decide), by omega, fun o ho => ?_⟩
    obtain rfl := firstU_uniq ho FU
    cases U with
    | nil =>
      simp [firstOf, optD, shl, sh0, eqv_list, shaped_w]
      refine ⟨rfl, by decide, ?_⟩
      rw [if_pos (by decide)]
      exact hN _ rfl
    | cons k r =>
      simp [firstOf, optD, shl, sh0, eqv_list, shaped_w]
      refine ⟨by have := shaped_list ((k :: r).map nth); simpa using this, ?_⟩
      have ne : ¬ (PyData.list (Wd (nth k) :: List.map (Wd ∘ nth) r)).eqv (PyData.list []) = true := fun z => Bool.false_ne_true z
      rw [if_neg ne]
      simpa [ENV] using hN ENV rfl
  rintro _ rfl
  refine seq_of (fun ρ' => ∃ x7 x13 x14 : Option Cell, ρ' = [some (.own a d5), some (.val (macD f rows)), some (.val (macD g rs)), some (.val (.int pick)), some (.val (.int nn)), some (.val (.list ((roadsTo nn).map Wd))), some (.val (.list ((U.map nth).map Wd))), x7, none, none, none, some (.val (.list (wA.map Wd))), some (.val (.list (wB.map Wd))), x13, x14, none, none, none]) ?_ ?_
  · intro N hN
    simp [ENV, -List.map_map, -e_forGo1]
    show forGo _ _ _ ([(f, rows), (g, rs)].map fun x : List Bool × List Row => macD x.1 x.2) _
    refine for_at (α := List Bool × List Row) (β := Option Cell × Option Cell × Option Cell) (fun x => macD x.1 x.2) (fun b => [some (.own a d5), some (.val (macD f rows)), some (.val (macD g rs)), some (.val (.int pick)), some (.val (.int nn)), some (.val (.list ((roadsTo nn).map Wd))), some (.val (.list ((U.map nth).map Wd))), b.1, none, none, none, some (.val (.list (wA.map Wd))), some (.val (.list (wB.map Wd))), b.2.1, b.2.2, none, none, none])
      (fun r b => ∀ x ∈ r, Slim 6 x.1 x.2 ∧ x.2.length ≤ 3) ?_ ?_ [(f, rows), (g, rs)] (none, none, none) ?_
    · rintro ⟨x7, x13, x14⟩ _
      exact hN _ ⟨x7, x13, x14, rfl⟩
    · rintro ⟨h, hr⟩ r ⟨x7, x13, x14⟩ hI M hM
      obtain ⟨Sx, lx⟩ := hI _ (List.mem_cons_self ..)
      have hI' : ∀ x ∈ r, Slim 6 x.1 x.2 ∧ x.2.length ≤ 3 := fun x hx => hI x (List.mem_cons_of_mem _ hx)
      simp only at Sx lx
      have fx := Sx.f
      have okx := Sx.ok (by decide)
      have mx : ∀ w, runM h hr w = runR h hr w := fun w => runM_R Sx.ins w
      have mxf : runM h hr = runR h hr := funext mx
      have bx : ∀ w : List Bool, w.length ≤ 5 → (runR h hr w).length ≤ 42 := fun w hw => Nat.le_trans (Sx.run w) (by omega)
      have few := (lf_rows Sx.ins h).2
      have pos := (lf_rows Sx.ins h).1.1
      simp [-List.map_map, -e_forGo1]
      refine ⟨h, hr, rfl, Sx.ins, Sx.words (by decide) (by omega), by omega, ?_⟩
      simp [-List.map_map, -e_forGo1]
      rw [mm (lfM h hr).1]
      simp [-List.map_map, -e_forGo1]
      rw [← mm (lfM h hr).1]
      refine ⟨by omega, ?_⟩
      generalize hl0 : (lfM h hr).2.length = l0 at few pos
      refine for_at (α := Nat) (β := Option Cell) (fun k => PyData.int ((l0 : Int) + (k : Nat))) (fun b => [some (.own a d5), some (.val (macD f rows)), some (.val (macD g rs)), some (.val (.int pick)), some (.val (.int nn)), some (.val (.list ((roadsTo nn).map Wd))), some (.val (.list ((U.map nth).map Wd))), some (.val (macD h hr)), none, none, none, some (.val (.list (wA.map Wd))), some (.val (.list (wB.map Wd))), some (.val (macD (lfM h hr).1 (lfM h hr).2)), b, none, none, none])
        (fun r b => ∀ k ∈ r, l0 + k ≤ 3) ?_ ?_ (List.range (4 - l0)) x14 (fun k hk => by have := List.mem_range.mp hk; omega)
      · rintro x14 _
        exact hM (_, _, _) hI'
      · rintro k ks x14 hk L hL
        have k3 := hk k (List.mem_cons_self ..)
        have e1 : (2 : Int) * ((l0 : Int) + (k : Nat)) - 1 = ((2 * (l0 + k) - 1 : Nat) : Int) := by omega
        have e2 : (l0 : Int) + (k : Nat) = ((l0 + k : Nat) : Int) := by omega
        simp [-List.map_map]
        refine ⟨.inl (by decide), ?_⟩
        rw [e1]
        refine ⟨h, hr, 2 * (l0 + k) - 1, rfl, okx, by omega, fun w hw => by rw [mx]; have := bx w (by omega); omega, ?_⟩
        simp [-List.map_map]
        refine ⟨runM h hr, l0 + k, by rw [e2], by omega, by omega, fun v hv => by rw [mx]; have := bx v (by have := roads_len hv; omega); omega, ?_⟩
        rw [mxf, told_back Sx.ins (by omega)]
        simp [mfD, -List.map_map]
        exact hL _ fun j hj => hk j (List.mem_cons_of_mem _ hj)
    · intro x hx
      simp at hx
      rcases hx with rfl | rfl
      · exact ⟨S1'.up (by decide), rl⟩
      · exact ⟨S2, l2⟩
  rintro _ ⟨x7, x13, x14, rfl⟩
  clear hb hl FU hU eU el ENV
  generalize U.map nth = UW
  rw [e_sSeq]
  simp [-e_sSeq, -List.map_map]
  refine ⟨d5, n + 800, 1, 2, rfl, hd5, by omega, by omega, by omega, by omega, fun p ps d6 hsh6 hd6 => ?_⟩
  have S3 : Slim 2 p ps := sh_slim hsh6 (by omega)
  have l3 : ps.length = 1 := hsh6.2.1
  have okP := S3.ok (by decide)
  have mP : ∀ w, runM p ps w = runR p ps w := fun w => runM_R S3.ins w
  simp [-e_sSeq, -List.map_map]
  rw [e_sSeq]
  simp [-e_sSeq, -List.map_map]
  refine ⟨f, rows, p, ps, rfl, S1'.up (by decide), S3.up (by decide), by rw [l3]; omega, fun b0 bs0 bin blen sem => ?_⟩
  rw [l3, Nat.mul_one] at blen
  have few := (lf_rows bin b0).2
  have bB0 : ∀ v : List Bool, v.length ≤ 5 → (runR b0 bs0 v).length ≤ 46 := fun v hv => by
    rw [sem]
    have := bA v hv
    exact Nat.le_trans (S3.run _) (by omega)
  have S4 := lf_slim bin (n := 3) (B := 46) (by decide) (by omega) (fun v hv => bB0 v hv)
  have sem2 : ∀ v, runR (lfM b0 bs0).1 (lfM b0 bs0).2 v = runR p ps (runR f rows v) := fun v => by rw [lf_run bin, sem]
  have few2 : (lfM b0 bs0).2.length ≤ 3 := by omega
  have ll := lf_lf (f := b0) bin
  generalize lfM b0 bs0 = bo at S4 sem2 few2 ll
  have mb : macD bo.1 bo.2 = .tuple [Wd bo.1, .list (bo.2.map rowD)] := rfl
  have okb := S4.ok (by decide)
  have mo : ∀ w, runM bo.1 bo.2 w = runR bo.1 bo.2 w := fun w => runM_R S4.ins w
  have mof : runM bo.1 bo.2 = runR bo.1 bo.2 := funext mo
  have bo5 : ∀ v : List Bool, v.length ≤ 5 → (runR bo.1 bo.2 v).length ≤ 46 := fun v hv => by
    rw [sem2]
    have := bA v hv
    exact Nat.le_trans (S3.run _) (by omega)
  have fo := S4.f
  simp [-e_sSeq, -List.map_map]
  rw [e_sSeq]
  simp [-e_sSeq, -List.map_map]
  refine ⟨bo.1, bo.2, 3, rfl, okb, by omega, fun w hw => by rw [mo]; have := bo5 w (by omega); omega, ?_⟩
  rw [tab _ _ 3 S4.ins]
  simp [-e_sSeq, -List.map_map]
  refine ⟨f, rows, 3, rfl, okA, by omega, fun w hw => by rw [mA]; have := bA w (by omega); omega, ?_⟩
  rw [tab f rows 3 S1'.ins]
  simp [-e_sSeq, -List.map_map, shl]
  refine lc_at Wd (fun w => Wd (runM p ps w)) ((roadsTo 3).map (runR f rows)) (by cases x7 <;> cases x13 <;> cases x14 <;> rfl) (fun w hw Q1 Q2 hQ => ?_) (by rw [List.length_map, roads_many]; decide) ?_
  · obtain ⟨v, hv, rfl⟩ := List.mem_map.mp hw
    have lv := roads_len hv
    have b1 := bA v (by omega)
    have b2 := S3.run (runR f rows v)
    simp
    refine ⟨p, ps, runR f rows v, rfl, okP.2.2, okP.2.1, by omega, by rw [mP]; omega, ?_⟩
    simp
    exact hQ _ (by cases x7 <;> cases x13 <;> cases x14 <;> rfl)
  have e7 : ((roadsTo 3).map (runR f rows)).map (fun w => Wd (runM p ps w)) = ((roadsTo 3).map (runR bo.1 bo.2)).map Wd := by
    rw [List.map_map, List.map_map]
    exact List.map_congr_left fun v _ => by show Wd (runM p ps (runR f rows v)) = Wd (runR bo.1 bo.2 v); rw [mP, sem2]
  rw [e7]
  simp [-e_sSeq, -List.map_map, shl, eqv_list]
  rw [e_sSeq]
  simp [-e_sSeq, -List.map_map]
  rw [mb]
  simp [-e_sSeq, -List.map_map]
  rw [← mb]
  rw [if_neg (by omega)]
  rw [e_sSeq]
  simp [-e_sSeq, -List.map_map]
  refine ⟨bo.1, bo.2, 5, rfl, okb, by omega, fun w hw => by rw [mo]; have := bo5 w (by omega); omega, ?_⟩
  simp [-List.map_map]
  refine ⟨runM bo.1 bo.2, 3, rfl, by decide, by decide, fun v hv => by rw [mo]; have := bo5 v (roads_len hv); omega, ?_⟩
  have tb := told_back (f := bo.1) (rows := bo.2) S4.ins (n := 3) (by rw [show lfM bo.1 bo.2 = bo from ll]; exact few2)
  rw [show lfM bo.1 bo.2 = bo from ll] at tb
  rw [mof, tb]
  have m99 : bo.2.length * bo.2.length ≤ 3 * 3 := Nat.mul_le_mul few2 few2
  simp [mfD, -List.map_map]
  refine ⟨bo.1, bo.2, bo.1, bo.2, rfl, S4.up (by decide), S4.up (by decide), by omega, fun o ho => ?_⟩
  obtain rfl := firstU_uniq ho (show FirstU _ _ none from fun _ => rfl)
  simp [-List.map_map]
  refine ⟨bo.1, bo.2, bo.1, bo.2, rfl, S4.up (by decide), S4.up (by decide), by omega, fun o ho => ?_⟩
  obtain rfl := firstU_uniq ho (show FirstU _ _ none from fun _ => rfl)
  simp [optD]
  exact hq _
theorem pl_right (g s : Int) (q : PyData → PyData → Prop) (hg : 0 ≤ g) (hs : 0 ≤ s) (hs2 : s < 1000000000000000000000007) (h : ∀ e, q (.bool true) e) : F_law_right [.list [.int g, .int s, .int 0]] q :=
  ⟨_, 0, rfl, ⟨g, s, 0, rfl, hg, hs, hs2, by omega, by omega⟩, by omega, h⟩
end DL
set_option maxHeartbeats 0
namespace DL
open PySem PySem.Spec PyProof.Rows L2
/-! ### the head -/
def d_has_turns_alone : He.DefD := ⟨("has_turns_alone", none), "has_turns_alone", "has_turns_alone", defArgs s_has_turns_alone, defBody s_has_turns_alone, defScope s_has_turns_alone, [], []⟩
def d_is_move : He.DefD := ⟨("is_move", none), "is_move", "is_move", defArgs s_is_move, defBody s_is_move, defScope s_is_move, [], []⟩
def d_check_machine : He.DefD := ⟨("check_machine", none), "check_machine", "check_machine", defArgs s_check_machine, defBody s_check_machine, defScope s_check_machine, [], []⟩
def d_states_come_to : He.DefD := ⟨("states_come_to", none), "states_come_to", "states_come_to", defArgs s_states_come_to, defBody s_states_come_to, defScope s_states_come_to, [], []⟩
def d_shared_start : He.DefD := ⟨("shared_start", none), "shared_start", "shared_start", defArgs s_shared_start, defBody s_shared_start, defScope s_shared_start, [], []⟩
def d_sure_words : He.DefD := ⟨("sure_words", none), "sure_words", "sure_words", defArgs s_sure_words, defBody s_sure_words, defScope s_sure_words, [], []⟩
def d_numbered_rows : He.DefD := ⟨("numbered_rows", none), "numbered_rows", "numbered_rows", defArgs s_numbered_rows, defBody s_numbered_rows, defScope s_numbered_rows, [], []⟩
def d_class_numbers : He.DefD := ⟨("class_numbers", none), "class_numbers", "class_numbers", defArgs s_class_numbers, defBody s_class_numbers, defScope s_class_numbers, [], []⟩
def d_least_form : He.DefD := ⟨("least_form", none), "least_form", "least_form", defArgs s_least_form, defBody s_least_form, defScope s_least_form, [], []⟩
def d_least : He.DefD := ⟨("least", none), "least", "least", defArgs s_least, defBody s_least, defScope s_least, [], []⟩
def d_surplus_behind : He.DefD := ⟨("surplus_behind", none), "surplus_behind", "surplus_behind", defArgs s_surplus_behind, defBody s_surplus_behind, defScope s_surplus_behind, [], []⟩
def d_first_unlike : He.DefD := ⟨("first_unlike", none), "first_unlike", "first_unlike", defArgs s_first_unlike, defBody s_first_unlike, defScope s_first_unlike, [], []⟩
def d_alike : He.DefD := ⟨("alike", none), "alike", "alike", defArgs s_alike, defBody s_alike, defScope s_alike, [], []⟩
def d_check_number : He.DefD := ⟨("check_number", none), "check_number", "check_number", defArgs s_check_number, defBody s_check_number, defScope s_check_number, [], []⟩
def d_roads_to : He.DefD := ⟨("roads_to", none), "roads_to", "roads_to", defArgs s_roads_to, defBody s_roads_to, defScope s_roads_to, [], []⟩
def d_rests : He.DefD := ⟨("rests", none), "rests", "rests", defArgs s_rests, defBody s_rests, defScope s_rests, [], []⟩
def d_mark_of : He.DefD := ⟨("mark_of", none), "mark_of", "mark_of", defArgs s_mark_of, defBody s_mark_of, defScope s_mark_of, [], []⟩
def d_classes_of : He.DefD := ⟨("classes_of", none), "classes_of", "classes_of", defArgs s_classes_of, defBody s_classes_of, defScope s_classes_of, [], []⟩
def d_check_road : He.DefD := ⟨("check_road", none), "check_road", "check_road", defArgs s_check_road, defBody s_check_road, defScope s_check_road, [], []⟩
def d_sure_of : He.DefD := ⟨("sure_of", none), "sure_of", "sure_of", defArgs s_sure_of, defBody s_sure_of, defScope s_sure_of, [], []⟩
def d_ends_of : He.DefD := ⟨("ends_of", none), "ends_of", "ends_of", defArgs s_ends_of, defBody s_ends_of, defScope s_ends_of, [], []⟩
def d_word_between : He.DefD := ⟨("word_between", none), "word_between", "word_between", defArgs s_word_between, defBody s_word_between, defScope s_word_between, [], []⟩
def d_move_of : He.DefD := ⟨("move_of", none), "move_of", "move_of", defArgs s_move_of, defBody s_move_of, defScope s_move_of, [], []⟩
def d_walked_on : He.DefD := ⟨("walked_on", none), "walked_on", "walked_on", defArgs s_walked_on, defBody s_walked_on, defScope s_walked_on, [], []⟩
def d_run : He.DefD := ⟨("run", none), "run", "run", defArgs s_run, defBody s_run, defScope s_run, [], []⟩
def d_machine_from : He.DefD := ⟨("machine_from", none), "machine_from", "machine_from", defArgs s_machine_from, defBody s_machine_from, defScope s_machine_from, [], []⟩
def d_table_of : He.DefD := ⟨("table_of", none), "table_of", "table_of", defArgs s_table_of, defBody s_table_of, defScope s_table_of, [], []⟩
def d_joined : He.DefD := ⟨("joined", none), "joined", "joined", defArgs s_joined, defBody s_joined, defScope s_joined, [], []⟩
def d_law_coin : He.DefD := ⟨("_law_coin", none), "_law_coin", "_law_coin", defArgs s_law_coin, defBody s_law_coin, defScope s_law_coin, [], []⟩
def d_law_bk_way : He.DefD := ⟨("_law_bk_way", none), "_law_bk_way", "_law_bk_way", defArgs s_law_bk_way, defBody s_law_bk_way, defScope s_law_bk_way, [], []⟩
def d_law_bk_shape : He.DefD := ⟨("_law_bk_shape", none), "_law_bk_shape", "_law_bk_shape", defArgs s_law_bk_shape, defBody s_law_bk_shape, defScope s_law_bk_shape, [], []⟩
def d_law_bk_near : He.DefD := ⟨("_law_bk_near", none), "_law_bk_near", "_law_bk_near", defArgs s_law_bk_near, defBody s_law_bk_near, defScope s_law_bk_near, [], []⟩
def d_law_bk_pulled : He.DefD := ⟨("_law_bk_pulled", none), "_law_bk_pulled", "_law_bk_pulled", defArgs s_law_bk_pulled, defBody s_law_bk_pulled, defScope s_law_bk_pulled, [], []⟩
def d_law_bk_texts : He.DefD := ⟨("_law_bk_texts", none), "_law_bk_texts", "_law_bk_texts", defArgs s_law_bk_texts, defBody s_law_bk_texts, defScope s_law_bk_texts, [], []⟩
def d_law_bk_walk : He.DefD := ⟨("_law_bk_walk", none), "_law_bk_walk", "_law_bk_walk", defArgs s_law_bk_walk, defBody s_law_bk_walk, defScope s_law_bk_walk, [], []⟩
def d_law_bk_run : He.DefD := ⟨("_law_bk_run", none), "_law_bk_run", "_law_bk_run", defArgs s_law_bk_run, defBody s_law_bk_run, defScope s_law_bk_run, [], []⟩
def d_law_right : He.DefD := ⟨("_law_right", none), "_law_right", "_law_right", defArgs s_law_right, defBody s_law_right, defScope s_law_right, [], []⟩
def d_law_purse : He.DefD := ⟨("_law_purse", none), "_law_purse", "_law_purse", defArgs s_law_purse, defBody s_law_purse, defScope s_law_purse, [], []⟩
def d_law : He.DefD := ⟨("law", none), "law", "law", defArgs s_law, defBody s_law, defScope s_law, [], []⟩
def fnL : List He.DefD := [d_has_turns_alone, d_is_move, d_check_machine, d_states_come_to, d_shared_start, d_sure_words, d_numbered_rows, d_class_numbers, d_least_form, d_least, d_surplus_behind, d_first_unlike, d_alike, d_check_number, d_roads_to, d_rests, d_mark_of, d_classes_of, d_check_road, d_sure_of, d_ends_of, d_word_between, d_move_of, d_walked_on, d_run, d_machine_from, d_table_of, d_joined, d_law_coin, d_law_bk_way, d_law_bk_shape, d_law_bk_near, d_law_bk_pulled, d_law_bk_texts, d_law_bk_walk, d_law_bk_run, d_law_right, d_law_purse, d_law]
def faL : List He.Fa := [.glo "has_turns_alone", .glo "is_move", .glo "check_machine", .glo "states_come_to", .glo "shared_start", .glo "sure_words", .glo "numbered_rows", .glo "class_numbers", .glo "least_form", .glo "least", .glo "surplus_behind", .glo "first_unlike", .glo "alike", .glo "check_number", .glo "roads_to", .glo "rests", .glo "mark_of", .glo "classes_of", .glo "check_road", .glo "sure_of", .glo "ends_of", .glo "word_between", .glo "move_of", .glo "walked_on", .glo "run", .glo "machine_from", .glo "table_of", .glo "joined", .glo "_law_coin", .glo "_law_bk_way", .glo "_law_bk_shape", .glo "_law_bk_near", .glo "_law_bk_pulled", .glo "_law_bk_texts", .glo "_law_bk_walk", .glo "_law_bk_run", .glo "_law_right", .glo "_law_purse", .glo "law", .free "all", .free "len", .free "zip", .free "range", .free "min", .free "enumerate", .free "dict", .free "list", .free "int", .free "tuple", .free "max", .free "abs", .str "TURNS" (mk [76, 82])]
abbrev RowL : PySem.W.OpenRow := PySem.W.OpenLaw.row PySem.Challenge.rw_leftroads_k95_whole_tables_tell_machines
def loose0 : List PySem.Str := ["RoadError", "InvalidRoad", "InvalidMachine", "InvalidNumber", "TURNS", "has_turns_alone", "check_road", "check_number", "is_move", "check_machine", "shared_start", "states_come_to", "sure_words", "class_numbers", "numbered_rows", "least_form", "move_of", "walked_on", "run", "least", "joined", "rests", "roads_to", "table_of", "mark_of", "classes_of", "sure_of", "ends_of", "word_between", "machine_from"]
def loose1 : List PySem.Str := ["surplus_behind", "first_unlike", "alike", "_law_purse", "_law_coin", "_law_bk_way", "_law_bk_shape", "_law_bk_near", "_law_bk_pulled", "_law_bk_texts", "_law_bk_walk", "_law_bk_run", "_law_right"]
def looseL : List PySem.Str := loose0 ++ loose1
abbrev hkL : PySem.W.Hook := He.hookD 4 faL fnL
def obL (s : PySem.W.SharedT) : He.AlD := He.obsDG 4 faL fnL (HandSHeadRun.getT s)
theorem obL_eq (s : PySem.W.SharedT) : obL s = hkL.obs s.abs := He.obsDG_eq (HandSHeadRun.getT_eq s)
theorem runL (w : World) : HandSHeadRun.RunEq RowL (PySem.W.view RowL.prog [51]) hkL obL 3000 looseL w := by
  intro os
  kernel_rfl
theorem factsL {P : Program} {w : World} {K : PySem.W.Frag} {h : Heap} {mg : Str → Option Value} {f : Addr} (X : K.In h) (G : h.Ns mainGlobals mg) (hfa : mg ("law" : Str) = some (.ref f)) (c : He.SaysD faL fnL K) :
    ∃ fd : FuncData, (∀ (s : Shared) (v : Value), BindsTo s fd ⟨[v], []⟩ [("script", v)]) ∧ ∀ base : Heap, K.In base → base.Ns mainGlobals mg → FnG P w K mg base 7 f fd ["script"] (spLaw K) := by
  obtain ⟨fd_has_turns_alone, Fn_has_turns_alone⟩ := c.def_ 0 (d := d_has_turns_alone) rfl
  have m_has_turns_alone := He.glo_ok X G (c.fact 0 (f := .glo "has_turns_alone") rfl)
  obtain ⟨fd_is_move, Fn_is_move⟩ := c.def_ 1 (d := d_is_move) rfl
  have m_is_move := He.glo_ok X G (c.fact 1 (f := .glo "is_move") rfl)
  obtain ⟨fd_check_machine, Fn_check_machine⟩ := c.def_ 2 (d := d_check_machine) rfl
  have m_check_machine := He.glo_ok X G (c.fact 2 (f := .glo "check_machine") rfl)
  obtain ⟨fd_states_come_to, Fn_states_come_to⟩ := c.def_ 3 (d := d_states_come_to) rfl
  have m_states_come_to := He.glo_ok X G (c.fact 3 (f := .glo "states_come_to") rfl)
  obtain ⟨fd_shared_start, Fn_shared_start⟩ := c.def_ 4 (d := d_shared_start) rfl
  have m_shared_start := He.glo_ok X G (c.fact 4 (f := .glo "shared_start") rfl)
  obtain ⟨fd_sure_words, Fn_sure_words⟩ := c.def_ 5 (d := d_sure_words) rfl
  have m_sure_words := He.glo_ok X G (c.fact 5 (f := .glo "sure_words") rfl)
  obtain ⟨fd_numbered_rows, Fn_numbered_rows⟩ := c.def_ 6 (d := d_numbered_rows) rfl
  have m_numbered_rows := He.glo_ok X G (c.fact 6 (f := .glo "numbered_rows") rfl)
  obtain ⟨fd_class_numbers, Fn_class_numbers⟩ := c.def_ 7 (d := d_class_numbers) rfl
  have m_class_numbers := He.glo_ok X G (c.fact 7 (f := .glo "class_numbers") rfl)
  obtain ⟨fd_least_form, Fn_least_form⟩ := c.def_ 8 (d := d_least_form) rfl
  have m_least_form := He.glo_ok X G (c.fact 8 (f := .glo "least_form") rfl)
  obtain ⟨fd_least, Fn_least⟩ := c.def_ 9 (d := d_least) rfl
  have m_least := He.glo_ok X G (c.fact 9 (f := .glo "least") rfl)
  obtain ⟨fd_surplus_behind, Fn_surplus_behind⟩ := c.def_ 10 (d := d_surplus_behind) rfl
  have m_surplus_behind := He.glo_ok X G (c.fact 10 (f := .glo "surplus_behind") rfl)
  obtain ⟨fd_first_unlike, Fn_first_unlike⟩ := c.def_ 11 (d := d_first_unlike) rfl
  have m_first_unlike := He.glo_ok X G (c.fact 11 (f := .glo "first_unlike") rfl)
  obtain ⟨fd_alike, Fn_alike⟩ := c.def_ 12 (d := d_alike) rfl
  have m_alike := He.glo_ok X G (c.fact 12 (f := .glo "alike") rfl)
  obtain ⟨fd_check_number, Fn_check_number⟩ := c.def_ 13 (d := d_check_number) rfl
  have m_check_number := He.glo_ok X G (c.fact 13 (f := .glo "check_number") rfl)
  obtain ⟨fd_roads_to, Fn_roads_to⟩ := c.def_ 14 (d := d_roads_to) rfl
  have m_roads_to := He.glo_ok X G (c.fact 14 (f := .glo "roads_to") rfl)
  obtain ⟨fd_rests, Fn_rests⟩ := c.def_ 15 (d := d_rests) rfl
  have m_rests := He.glo_ok X G (c.fact 15 (f := .glo "rests") rfl)
  obtain ⟨fd_mark_of, Fn_mark_of⟩ := c.def_ 16 (d := d_mark_of) rfl
  have m_mark_of := He.glo_ok X G (c.fact 16 (f := .glo "mark_of") rfl)
  obtain ⟨fd_classes_of, Fn_classes_of⟩ := c.def_ 17 (d := d_classes_of) rfl
  have m_classes_of := He.glo_ok X G (c.fact 17 (f := .glo "classes_of") rfl)
  obtain ⟨fd_check_road, Fn_check_road⟩ := c.def_ 18 (d := d_check_road) rfl
  have m_check_road := He.glo_ok X G (c.fact 18 (f := .glo "check_road") rfl)
  obtain ⟨fd_sure_of, Fn_sure_of⟩ := c.def_ 19 (d := d_sure_of) rfl
  have m_sure_of := He.glo_ok X G (c.fact 19 (f := .glo "sure_of") rfl)
  obtain ⟨fd_ends_of, Fn_ends_of⟩ := c.def_ 20 (d := d_ends_of) rfl
  have m_ends_of := He.glo_ok X G (c.fact 20 (f := .glo "ends_of") rfl)
  obtain ⟨fd_word_between, Fn_word_between⟩ := c.def_ 21 (d := d_word_between) rfl
  have m_word_between := He.glo_ok X G (c.fact 21 (f := .glo "word_between") rfl)
  obtain ⟨fd_move_of, Fn_move_of⟩ := c.def_ 22 (d := d_move_of) rfl
  have m_move_of := He.glo_ok X G (c.fact 22 (f := .glo "move_of") rfl)
  obtain ⟨fd_walked_on, Fn_walked_on⟩ := c.def_ 23 (d := d_walked_on) rfl
  have m_walked_on := He.glo_ok X G (c.fact 23 (f := .glo "walked_on") rfl)
  obtain ⟨fd_run, Fn_run⟩ := c.def_ 24 (d := d_run) rfl
  have m_run := He.glo_ok X G (c.fact 24 (f := .glo "run") rfl)
  obtain ⟨fd_machine_from, Fn_machine_from⟩ := c.def_ 25 (d := d_machine_from) rfl
  have m_machine_from := He.glo_ok X G (c.fact 25 (f := .glo "machine_from") rfl)
  obtain ⟨fd_table_of, Fn_table_of⟩ := c.def_ 26 (d := d_table_of) rfl
  have m_table_of := He.glo_ok X G (c.fact 26 (f := .glo "table_of") rfl)
  obtain ⟨fd_joined, Fn_joined⟩ := c.def_ 27 (d := d_joined) rfl
  have m_joined := He.glo_ok X G (c.fact 27 (f := .glo "joined") rfl)
  obtain ⟨fd_law_coin, Fn_law_coin⟩ := c.def_ 28 (d := d_law_coin) rfl
  have m_law_coin := He.glo_ok X G (c.fact 28 (f := .glo "_law_coin") rfl)
  obtain ⟨fd_law_bk_way, Fn_law_bk_way⟩ := c.def_ 29 (d := d_law_bk_way) rfl
  have m_law_bk_way := He.glo_ok X G (c.fact 29 (f := .glo "_law_bk_way") rfl)
  obtain ⟨fd_law_bk_shape, Fn_law_bk_shape⟩ := c.def_ 30 (d := d_law_bk_shape) rfl
  have m_law_bk_shape := He.glo_ok X G (c.fact 30 (f := .glo "_law_bk_shape") rfl)
  obtain ⟨fd_law_bk_near, Fn_law_bk_near⟩ := c.def_ 31 (d := d_law_bk_near) rfl
  have m_law_bk_near := He.glo_ok X G (c.fact 31 (f := .glo "_law_bk_near") rfl)
  obtain ⟨fd_law_bk_pulled, Fn_law_bk_pulled⟩ := c.def_ 32 (d := d_law_bk_pulled) rfl
  have m_law_bk_pulled := He.glo_ok X G (c.fact 32 (f := .glo "_law_bk_pulled") rfl)
  obtain ⟨fd_law_bk_texts, Fn_law_bk_texts⟩ := c.def_ 33 (d := d_law_bk_texts) rfl
  have m_law_bk_texts := He.glo_ok X G (c.fact 33 (f := .glo "_law_bk_texts") rfl)
  obtain ⟨fd_law_bk_walk, Fn_law_bk_walk⟩ := c.def_ 34 (d := d_law_bk_walk) rfl
  have m_law_bk_walk := He.glo_ok X G (c.fact 34 (f := .glo "_law_bk_walk") rfl)
  obtain ⟨fd_law_bk_run, Fn_law_bk_run⟩ := c.def_ 35 (d := d_law_bk_run) rfl
  have m_law_bk_run := He.glo_ok X G (c.fact 35 (f := .glo "_law_bk_run") rfl)
  obtain ⟨fd_law_right, Fn_law_right⟩ := c.def_ 36 (d := d_law_right) rfl
  have m_law_right := He.glo_ok X G (c.fact 36 (f := .glo "_law_right") rfl)
  obtain ⟨fd_law_purse, Fn_law_purse⟩ := c.def_ 37 (d := d_law_purse) rfl
  have m_law_purse := He.glo_ok X G (c.fact 37 (f := .glo "_law_purse") rfl)
  obtain ⟨fd_law, Fn_law⟩ := c.def_ 38 (d := d_law) rfl
  have e := hfa.symm.trans (He.glo_ok X G (c.fact 38 (f := .glo "law") rfl))
  cases e
  have b_all := He.free_ok X G (c.fact 39 (f := .free "all") rfl)
  have b_len := He.free_ok X G (c.fact 40 (f := .free "len") rfl)
  have b_zip := He.free_ok X G (c.fact 41 (f := .free "zip") rfl)
  have b_range := He.free_ok X G (c.fact 42 (f := .free "range") rfl)
  have b_min := He.free_ok X G (c.fact 43 (f := .free "min") rfl)
  have b_enumerate := He.free_ok X G (c.fact 44 (f := .free "enumerate") rfl)
  have b_dict := He.free_ok X G (c.fact 45 (f := .free "dict") rfl)
  have b_list := He.free_ok X G (c.fact 46 (f := .free "list") rfl)
  have b_int := He.free_ok X G (c.fact 47 (f := .free "int") rfl)
  have b_tuple := He.free_ok X G (c.fact 48 (f := .free "tuple") rfl)
  have b_max := He.free_ok X G (c.fact 49 (f := .free "max") rfl)
  have b_abs := He.free_ok X G (c.fact 50 (f := .free "abs") rfl)
  have c_TURNS := He.str_ok X G (c.fact 51 (f := .str "TURNS" (mk [76, 82])) rfl)
  have bd_has_turns_alone : L2.Binds K fd_has_turns_alone ["word"] [] := Fn_has_turns_alone.bindsN fun _ _ _ _ _ _ us hl => match us, hl with | [_], _ => rfl
  have bd_is_move : L2.Binds K fd_is_move ["move", "many"] [] := Fn_is_move.bindsN fun _ _ _ _ _ _ us hl => match us, hl with | [_, _], _ => rfl
  have bd_check_machine : L2.Binds K fd_check_machine ["machine"] [] := Fn_check_machine.bindsN fun _ _ _ _ _ _ us hl => match us, hl with | [_], _ => rfl
  have bd_states_come_to : L2.Binds K fd_states_come_to ["rows"] [] := Fn_states_come_to.bindsN fun _ _ _ _ _ _ us hl => match us, hl with | [_], _ => rfl
  have bd_shared_start : L2.Binds K fd_shared_start ["one", "other"] [] := Fn_shared_start.bindsN fun _ _ _ _ _ _ us hl => match us, hl with | [_, _], _ => rfl
  have bd_sure_words : L2.Binds K fd_sure_words ["rows", "states"] [] := Fn_sure_words.bindsN fun _ _ _ _ _ _ us hl => match us, hl with | [_, _], _ => rfl
  have bd_numbered_rows : L2.Binds K fd_numbered_rows ["rows", "classes"] [] := Fn_numbered_rows.bindsN fun _ _ _ _ _ _ us hl => match us, hl with | [_, _], _ => rfl
  have bd_class_numbers : L2.Binds K fd_class_numbers ["rows", "states"] [] := Fn_class_numbers.bindsN fun _ _ _ _ _ _ us hl => match us, hl with | [_, _], _ => rfl
  have bd_least_form : L2.Binds K fd_least_form ["first", "rows"] [] := Fn_least_form.bindsN fun _ _ _ _ _ _ us hl => match us, hl with | [_, _], _ => rfl
  have bd_least : L2.Binds K fd_least ["machine"] [] := Fn_least.bindsN fun _ _ _ _ _ _ us hl => match us, hl with | [_], _ => rfl
  have bd_surplus_behind : L2.Binds K fd_surplus_behind ["surplus", "one", "other"] [] := Fn_surplus_behind.bindsN fun _ _ _ _ _ _ us hl => match us, hl with | [_, _, _], _ => rfl
  have bd_first_unlike : L2.Binds K fd_first_unlike ["one", "other"] [] := Fn_first_unlike.bindsN fun _ _ _ _ _ _ us hl => match us, hl with | [_, _], _ => rfl
  have bd_alike : L2.Binds K fd_alike ["one", "other"] [] := Fn_alike.bindsN fun _ _ _ _ _ _ us hl => match us, hl with | [_, _], _ => rfl
  have bd_check_number : L2.Binds K fd_check_number ["number", "least"] [] := Fn_check_number.bindsN fun _ _ _ _ _ _ us hl => match us, hl with | [_, _], _ => rfl
  have bd_roads_to : L2.Binds K fd_roads_to ["length"] [] := Fn_roads_to.bindsN fun _ _ _ _ _ _ us hl => match us, hl with | [_], _ => rfl
  have bd_rests : L2.Binds K fd_rests ["texts"] [] := Fn_rests.bindsN fun _ _ _ _ _ _ us hl => match us, hl with | [_], _ => rfl
  have bd_mark_of : L2.Binds K fd_mark_of ["table", "road", "later"] [] := Fn_mark_of.bindsN fun _ _ _ _ _ _ us hl => match us, hl with | [_, _, _], _ => rfl
  have bd_classes_of : L2.Binds K fd_classes_of ["table", "most"] [] := Fn_classes_of.bindsN fun _ _ _ _ _ _ us hl => match us, hl with | [_, _], _ => rfl
  have bd_check_road : L2.Binds K fd_check_road ["road"] [] := Fn_check_road.bindsN fun _ _ _ _ _ _ us hl => match us, hl with | [_], _ => rfl
  have bd_sure_of : L2.Binds K fd_sure_of ["table", "road", "pair", "ends"] [] := Fn_sure_of.bindsN fun _ _ _ _ _ _ us hl => match us, hl with | [_, _, _, _], _ => rfl
  have bd_ends_of : L2.Binds K fd_ends_of ["table", "roads", "moves"] [] := Fn_ends_of.bindsN fun _ _ _ _ _ _ us hl => match us, hl with | [_, _, _], _ => rfl
  have bd_word_between : L2.Binds K fd_word_between ["table", "road", "turn", "end", "later_end"] [] := Fn_word_between.bindsN fun _ _ _ _ _ _ us hl => match us, hl with | [_, _, _, _, _], _ => rfl
  have bd_move_of : L2.Binds K fd_move_of ["rows", "state", "turn"] [] := Fn_move_of.bindsN fun _ _ _ _ _ _ us hl => match us, hl with | [_, _, _], _ => rfl
  have bd_walked_on : L2.Binds K fd_walked_on ["rows", "state", "road"] [] := Fn_walked_on.bindsN fun _ _ _ _ _ _ us hl => match us, hl with | [_, _, _], _ => rfl
  have bd_run : L2.Binds K fd_run ["machine", "road"] [] := Fn_run.bindsN fun _ _ _ _ _ _ us hl => match us, hl with | [_, _], _ => rfl
  have bd_machine_from : L2.Binds K fd_machine_from ["words", "most"] [] := Fn_machine_from.bindsN fun _ _ _ _ _ _ us hl => match us, hl with | [_, _], _ => rfl
  have bd_table_of : L2.Binds K fd_table_of ["machine", "length"] [] := Fn_table_of.bindsN fun _ _ _ _ _ _ us hl => match us, hl with | [_, _], _ => rfl
  have bd_joined : L2.Binds K fd_joined ["one", "other"] [] := Fn_joined.bindsN fun _ _ _ _ _ _ us hl => match us, hl with | [_, _], _ => rfl
  have bd_law_coin : L2.Binds K fd_law_coin ["purse", "many"] [] := Fn_law_coin.bindsN fun _ _ _ _ _ _ us hl => match us, hl with | [_, _], _ => rfl
  have bd_law_bk_way : L2.Binds K fd_law_bk_way ["purse", "top"] [] := Fn_law_bk_way.bindsN fun _ _ _ _ _ _ us hl => match us, hl with | [_, _], _ => rfl
  have bd_law_bk_shape : L2.Binds K fd_law_bk_shape ["purse", "many", "top"] [] := Fn_law_bk_shape.bindsN fun _ _ _ _ _ _ us hl => match us, hl with | [_, _, _], _ => rfl
  have bd_law_bk_near : L2.Binds K fd_law_bk_near ["purse", "shape", "top"] [] := Fn_law_bk_near.bindsN fun _ _ _ _ _ _ us hl => match us, hl with | [_, _, _], _ => rfl
  have bd_law_bk_pulled : L2.Binds K fd_law_bk_pulled ["shape", "state"] [] := Fn_law_bk_pulled.bindsN fun _ _ _ _ _ _ us hl => match us, hl with | [_, _], _ => rfl
  have bd_law_bk_texts : L2.Binds K fd_law_bk_texts ["top"] [] := Fn_law_bk_texts.bindsN fun _ _ _ _ _ _ us hl => match us, hl with | [_], _ => rfl
  have bd_law_bk_walk : L2.Binds K fd_law_bk_walk ["shape", "way"] [] := Fn_law_bk_walk.bindsN fun _ _ _ _ _ _ us hl => match us, hl with | [_, _], _ => rfl
  have bd_law_bk_run : L2.Binds K fd_law_bk_run ["shape", "way"] [] := Fn_law_bk_run.bindsN fun _ _ _ _ _ _ us hl => match us, hl with | [_, _], _ => rfl
  have bd_law_right : L2.Binds K fd_law_right ["purse"] [] := Fn_law_right.bindsN fun _ _ _ _ _ _ us hl => match us, hl with | [_], _ => rfl
  have bd_law_purse : L2.Binds K fd_law_purse ["script", "place"] [] := Fn_law_purse.bindsN fun _ _ _ _ _ _ us hl => match us, hl with | [_, _], _ => rfl
  have b := FunD.bindsA (ps := ["script"]) Fn_law fun _ _ _ _ _ _ us hl => match us, hl with | [_], _ => rfl
  refine ⟨fd_law, fun s v => b s [v] rfl, fun base _ _ => ?_⟩
  have k_has_turns_alone : Know P w K mg base "has_turns_alone" 1 ["word"] false 1 F_has_turns_alone := ⟨_, _, m_has_turns_alone, Fn_has_turns_alone.kp, bd_has_turns_alone, ok_has_turns_alone Fn_has_turns_alone b_all c_TURNS pl_has_turns_alone⟩
  have k_is_move : Know P w K mg base "is_move" 2 ["move", "many"] false 2 F_is_move := ⟨_, _, m_is_move, Fn_is_move.kp, bd_is_move, ok_is_move Fn_is_move k_has_turns_alone pl_is_move⟩
  have k_check_machine : Know P w K mg base "check_machine" 3 ["machine"] false 1 F_check_machine := ⟨_, _, m_check_machine, Fn_check_machine.kp, bd_check_machine, ok_check_machine Fn_check_machine k_has_turns_alone k_is_move b_len pl_check_machine⟩
  have k_states_come_to : Know P w K mg base "states_come_to" 1 ["rows"] false 1 F_states_come_to := ⟨_, _, m_states_come_to, Fn_states_come_to.kp, bd_states_come_to, ok_states_come_to Fn_states_come_to b_len pl_states_come_to⟩
  have k_shared_start : Know P w K mg base "shared_start" 1 ["one", "other"] false 2 F_shared_start := ⟨_, _, m_shared_start, Fn_shared_start.kp, bd_shared_start, ok_shared_start Fn_shared_start b_zip pl_shared_start⟩
  have k_sure_words : Know P w K mg base "sure_words" 2 ["rows", "states"] false 2 F_sure_words := ⟨_, _, m_sure_words, Fn_sure_words.kp, bd_sure_words, ok_sure_words Fn_sure_words k_shared_start pl_sure_words⟩
  have k_numbered_rows : Know P w K mg base "numbered_rows" 1 ["rows", "classes"] false 2 F_numbered_rows := ⟨_, _, m_numbered_rows, Fn_numbered_rows.kp, bd_numbered_rows, ok_numbered_rows Fn_numbered_rows b_len pl_numbered_rows⟩
  have k_class_numbers : Know P w K mg base "class_numbers" 1 ["rows", "states"] false 2 F_class_numbers := ⟨_, _, m_class_numbers, Fn_class_numbers.kp, bd_class_numbers, ok_class_numbers Fn_class_numbers b_len pl_class_numbers⟩
  have k_least_form : Know P w K mg base "least_form" 3 ["first", "rows"] false 2 F_least_form := ⟨_, _, m_least_form, Fn_least_form.kp, bd_least_form, ok_least_form Fn_least_form k_states_come_to k_sure_words k_numbered_rows k_class_numbers b_len pl_least_form⟩
  have k_least : Know P w K mg base "least" 4 ["machine"] false 1 F_least := ⟨_, _, m_least, Fn_least.kp, bd_least, ok_least Fn_least k_check_machine k_least_form pl_least⟩
  have k_surplus_behind : Know P w K mg base "surplus_behind" 1 ["surplus", "one", "other"] false 3 F_surplus_behind := ⟨_, _, m_surplus_behind, Fn_surplus_behind.kp, bd_surplus_behind, ok_surplus_behind Fn_surplus_behind b_len pl_surplus_behind⟩
  have k_first_unlike : Know P w K mg base "first_unlike" 4 ["one", "other"] false 2 F_first_unlike := ⟨_, _, m_first_unlike, Fn_first_unlike.kp, bd_first_unlike, ok_first_unlike Fn_first_unlike k_check_machine k_surplus_behind b_len b_range pl_first_unlike⟩
  have k_alike : Know P w K mg base "alike" 5 ["one", "other"] false 2 F_alike := ⟨_, _, m_alike, Fn_alike.kp, bd_alike, ok_alike Fn_alike k_first_unlike pl_alike⟩
  have k_check_number : Know P w K mg base "check_number" 1 ["number", "least"] false 2 F_check_number := ⟨_, _, m_check_number, Fn_check_number.kp, bd_check_number, ok_check_number Fn_check_number pl_check_number⟩
  have k_roads_to : Know P w K mg base "roads_to" 1 ["length"] false 1 F_roads_to := ⟨_, _, m_roads_to, Fn_roads_to.kp, bd_roads_to, ok_roads_to Fn_roads_to b_len pl_roads_to⟩
  have k_rests : Know P w K mg base "rests" 1 ["texts"] false 1 F_rests := ⟨_, _, m_rests, Fn_rests.kp, bd_rests, ok_rests Fn_rests b_min b_len pl_rests⟩
  have k_mark_of : Know P w K mg base "mark_of" 2 ["table", "road", "later"] false 3 F_mark_of := ⟨_, _, m_mark_of, Fn_mark_of.kp, bd_mark_of, ok_mark_of Fn_mark_of k_rests pl_mark_of⟩
  have k_classes_of : Know P w K mg base "classes_of" 3 ["table", "most"] false 2 F_classes_of := ⟨_, _, m_classes_of, Fn_classes_of.kp, bd_classes_of, ok_classes_of Fn_classes_of k_roads_to k_mark_of b_len pl_classes_of⟩
  have k_check_road : Know P w K mg base "check_road" 2 ["road"] false 1 F_check_road := ⟨_, _, m_check_road, Fn_check_road.kp, bd_check_road, ok_check_road Fn_check_road k_has_turns_alone pl_check_road⟩
  have k_sure_of : Know P w K mg base "sure_of" 2 ["table", "road", "pair", "ends"] false 4 F_sure_of := ⟨_, _, m_sure_of, Fn_sure_of.kp, bd_sure_of, ok_sure_of Fn_sure_of k_rests b_range b_len pl_sure_of⟩
  have k_ends_of : Know P w K mg base "ends_of" 3 ["table", "roads", "moves"] false 3 F_ends_of := ⟨_, _, m_ends_of, Fn_ends_of.kp, bd_ends_of, ok_ends_of Fn_ends_of k_sure_of b_enumerate b_len pl_ends_of⟩
  have k_word_between : Know P w K mg base "word_between" 1 ["table", "road", "turn", "end", "later_end"] false 5 F_word_between := ⟨_, _, m_word_between, Fn_word_between.kp, bd_word_between, ok_word_between Fn_word_between b_len pl_word_between⟩
  have k_move_of : Know P w K mg base "move_of" 1 ["rows", "state", "turn"] false 3 F_move_of := ⟨_, _, m_move_of, Fn_move_of.kp, bd_move_of, ok_move_of Fn_move_of pl_move_of⟩
  have k_walked_on : Know P w K mg base "walked_on" 2 ["rows", "state", "road"] false 3 F_walked_on := ⟨_, _, m_walked_on, Fn_walked_on.kp, bd_walked_on, ok_walked_on Fn_walked_on k_move_of pl_walked_on⟩
  have k_run : Know P w K mg base "run" 4 ["machine", "road"] false 2 F_run := ⟨_, _, m_run, Fn_run.kp, bd_run, ok_run Fn_run k_check_machine k_check_road k_walked_on pl_run⟩
  have k_machine_from : Know P w K mg base "machine_from" 5 ["words", "most"] false 2 F_machine_from := ⟨_, _, m_machine_from, Fn_machine_from.kp, bd_machine_from, ok_machine_from Fn_machine_from k_check_number k_check_road k_roads_to k_classes_of k_ends_of k_word_between k_run b_len b_dict b_zip b_range b_list pl_machine_from⟩
  have k_table_of : Know P w K mg base "table_of" 5 ["machine", "length"] false 2 F_table_of := ⟨_, _, m_table_of, Fn_table_of.kp, bd_table_of, ok_table_of Fn_table_of k_check_machine k_check_number k_roads_to k_run pl_table_of⟩
  have k_joined : Know P w K mg base "joined" 4 ["one", "other"] false 2 F_joined := ⟨_, _, m_joined, Fn_joined.kp, bd_joined, ok_joined Fn_joined k_check_machine k_walked_on k_least_form b_len pl_joined⟩
  have k_law_coin : Know P w K mg base "_law_coin" 1 ["purse", "many"] true 2 F_law_coin := ⟨_, _, m_law_coin, Fn_law_coin.kp, bd_law_coin, ok_law_coin Fn_law_coin b_int pl_law_coin⟩
  have k_law_bk_way : Know P w K mg base "_law_bk_way" 2 ["purse", "top"] true 2 F_law_bk_way := ⟨_, _, m_law_bk_way, Fn_law_bk_way.kp, bd_law_bk_way, ok_law_bk_way Fn_law_bk_way k_law_coin b_range pl_law_bk_way⟩
  have k_law_bk_shape : Know P w K mg base "_law_bk_shape" 3 ["purse", "many", "top"] true 3 F_law_bk_shape := ⟨_, _, m_law_bk_shape, Fn_law_bk_shape.kp, bd_law_bk_shape, ok_law_bk_shape Fn_law_bk_shape k_law_bk_way k_law_coin b_range pl_law_bk_shape⟩
  have k_law_bk_near : Know P w K mg base "_law_bk_near" 3 ["purse", "shape", "top"] true 3 F_law_bk_near := ⟨_, _, m_law_bk_near, Fn_law_bk_near.kp, bd_law_bk_near, ok_law_bk_near Fn_law_bk_near k_law_coin k_law_bk_way b_list b_range b_len b_tuple pl_law_bk_near⟩
  have k_law_bk_pulled : Know P w K mg base "_law_bk_pulled" 1 ["shape", "state"] false 2 F_law_bk_pulled := ⟨_, _, m_law_bk_pulled, Fn_law_bk_pulled.kp, bd_law_bk_pulled, ok_law_bk_pulled Fn_law_bk_pulled b_range b_len pl_law_bk_pulled⟩
  have k_law_bk_texts : Know P w K mg base "_law_bk_texts" 1 ["top"] false 1 F_law_bk_texts := ⟨_, _, m_law_bk_texts, Fn_law_bk_texts.kp, bd_law_bk_texts, ok_law_bk_texts Fn_law_bk_texts b_range pl_law_bk_texts⟩
  have k_law_bk_walk : Know P w K mg base "_law_bk_walk" 1 ["shape", "way"] false 2 F_law_bk_walk := ⟨_, _, m_law_bk_walk, Fn_law_bk_walk.kp, bd_law_bk_walk, ok_law_bk_walk Fn_law_bk_walk pl_law_bk_walk⟩
  have k_law_bk_run : Know P w K mg base "_law_bk_run" 2 ["shape", "way"] false 2 F_law_bk_run := ⟨_, _, m_law_bk_run, Fn_law_bk_run.kp, bd_law_bk_run, ok_law_bk_run Fn_law_bk_run k_law_bk_walk pl_law_bk_run⟩
  have k_law_right : KnowG P w K mg base "_law_right" 6 ["purse"] true 1 F_law_right := ⟨_, _, m_law_right, Fn_law_right.kp, bd_law_right, ok_law_right Fn_law_right k_law_bk_shape k_law_coin k_law_bk_near k_law_bk_pulled k_table_of k_law_bk_texts k_law_bk_run k_least k_alike k_first_unlike k_machine_from k_joined b_len b_range pl_law_right⟩
  exact ok_law Fn_law b_len b_max b_min b_range m_law_purse Fn_law_purse.kp bd_law_purse (ok_law_purse Fn_law_purse b_len b_max b_abs b_int) k_law_right pl_right
end DL
open PySem PySem.W PySem.Calls PyProof.Rows
theorem PySem.Challenge.cw_leftroads_k95_whole_tables_tell_machines_holds : PySem.Challenge.rw_leftroads_k95_whole_tables_tell_machines.Holds := by
  w_on; o_law
  refine HandSHeadRun.head_any (r := OpenLaw.row PySem.Challenge.rw_leftroads_k95_whole_tables_tell_machines) (q := view (OpenLaw.row PySem.Challenge.rw_leftroads_k95_whole_tables_tell_machines).prog [51]) (H := DL.hkL) (ob := DL.obL) (M := 3000) (loose := DL.looseL) (d := HandSHeadRun.topDef (OpenLaw.row PySem.Challenge.rw_leftroads_k95_whole_tables_tell_machines).prog 51) (kwd := []) DL.obL_eq
    (by kernel_rfl) (fun s => by kernel_rfl) DL.runL (by kernel_rfl) (by kernel_rfl) (by kernel_rfl) (by rfl) (by first | assumption | decide +kernel) (by decide +kernel) ⟨rfl, rfl, rfl, rfl, rfl, by decide +kernel⟩ ?hw ?hc
  case hw => w_witness2
  case hc =>
    refine DL.walk_ofG (l := PySem.Challenge.rw_leftroads_k95_whole_tables_tell_machines) (n := 63) (k := 7) (x := "script") rfl (by decide) (by kernel_rfl) ⟨rfl, by decide, by decide⟩ fun w mg fa h Y G hmg0 => ?_
    obtain ⟨K, KX, c⟩ := Y
    have hmg : mg ("law" : PySem.Str) = some (.ref fa) := by
      have e : (HandSHeadRun.topDef (OpenLaw.row PySem.Challenge.rw_leftroads_k95_whole_tables_tell_machines).prog 51).name = ("law" : PySem.Str) := by kernel_rfl
      rw [← e]
      exact hmg0
    obtain ⟨fd, hb, hF⟩ := DL.factsL (P := (PySem.Challenge.rw_leftroads_k95_whole_tables_tell_machines).prog) (w := w) KX G hmg c
    exact ⟨K, fd, DL.spLaw K, KX, hb, fun H a ns hl _ hS => ⟨a, ns, rfl, hS, hl, fun _ => rfl⟩, hF⟩
