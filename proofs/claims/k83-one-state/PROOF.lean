import PyProof.Rows.All
import Wide.All
import OpenK.AllK
import Wide.FinOn
import HandS.ForMost
import HandS.Defaults
import HandS.Wide
import HandS.Flow
import HandS.WordsDict
import HandS.TupAny
import HandS.Style
import HandS.Replace
import KE.KDictZip
import KE.GoesNew
import HandS.Ends
import PyProof.ReprLen
import HandS.Head0
import HandS.Head1
import HandS.Head2
import HandS.HeadEnd
import HandS.HeadHook1
import HandS.HeadHook2
import PySem.Challenge.RW_leftroads_k83_machines_of_one_state
set_option Elab.async false
set_option linter.all false
set_option maxRecDepth 100000
set_option maxHeartbeats 8000000
namespace DL
open PySem PySem.Spec PyProof.Rows L2

/-! ### data in the heap -/
/-- a key as data -/
def kD : Key → PyData
  | .inl i => .int i
  | .inr x => .str x
/-- the key of a dict whose keys are tuples -/
def kTD (ks : List Key) : PyData := .tuple (ks.map kD)
def isTup : HO → Bool
  | .tup _ => true
  | _ => false

mutual
/-- v tells d in H; no list and no dict of it stands where O holds -/
inductive Is (O : Addr → Prop) (H : Hp) : V → PyData → Prop
  | non : Is O H .non .none
  | bl (b : Bool) : Is O H (.bl b) (.bool b)
  | int (i : Int) : Is O H (.int i) (.int i)
  | str (x : Str) : Is O H (.str x) (.str x)
  | lst {a : Addr} {xs : List V} {ds : List PyData} : ¬ O a → H a = some (.lst xs) → IsAll O H xs ds → Is O H (.ref a) (.list ds)
  | tup {a : Addr} {xs : List V} {ds : List PyData} : H a = some (.tup xs) → IsAll O H xs ds → Is O H (.ref a) (.tuple ds)
  | dK {a : Addr} {kvs : List (Key × V)} {es : List (PyData × PyData)} : ¬ O a → Rd H a (.dK kvs) → IsK O H kvs es → Is O H (.ref a) (.dict es)
  | dT {a : Addr} {kvs : List (List Key × V)} {es : List (PyData × PyData)} : ¬ O a → Rd H a (.dT kvs) → IsT O H kvs es → Is O H (.ref a) (.dict ((.none, .none) :: es))
inductive IsAll (O : Addr → Prop) (H : Hp) : List V → List PyData → Prop
  | nil : IsAll O H [] []
  | cons {v : V} {vs : List V} {d : PyData} {ds : List PyData} : Is O H v d → IsAll O H vs ds → IsAll O H (v :: vs) (d :: ds)
inductive IsK (O : Addr → Prop) (H : Hp) : List (Key × V) → List (PyData × PyData) → Prop
  | nilK : IsK O H [] []
  | consK {k : Key} {v : V} {vs : List (Key × V)} {d : PyData} {ds : List (PyData × PyData)} : Is O H v d → IsK O H vs ds → IsK O H ((k, v) :: vs) ((kD k, d) :: ds)
inductive IsT (O : Addr → Prop) (H : Hp) : List (List Key × V) → List (PyData × PyData) → Prop
  | nilT : IsT O H [] []
  | consT {k : List Key} {v : V} {vs : List (List Key × V)} {d : PyData} {ds : List (PyData × PyData)} : Is O H v d → IsT O H vs ds → IsT O H ((k, v) :: vs) ((kTD k, d) :: ds)
end

/-- from one state to a later one: nothing is written but at O; what stood outside O stays outside -/
def Adv (O O' : Addr → Prop) (H H' : Hp) : Prop :=
  (∀ b o, H b = some o → (¬ O b ∨ isTup o = true) → H' b = some o) ∧ ∀ b o, H b = some o → ¬ O b → ¬ O' b
theorem Adv.refl {O : Addr → Prop} {H : Hp} : Adv O O H H := ⟨fun _ _ h _ => h, fun _ _ _ h => h⟩
theorem Adv.trans {O O' O'' : Addr → Prop} {H H' H'' : Hp} (a : Adv O O' H H') (b : Adv O' O'' H' H'') : Adv O O'' H H'' := by
  refine ⟨fun c o h k => ?_, fun c o h k => b.2 c o (a.1 c o h (.inl k)) (a.2 c o h k)⟩
  rcases k with k | k
  · exact b.1 c o (a.1 c o h (.inl k)) (.inl (a.2 c o h k))
  · exact b.1 c o (a.1 c o h (.inr k)) (.inr k)
theorem Adv.sub {O O' : Addr → Prop} {H : Hp} (h : ∀ a, O' a → O a) : Adv O O' H H := ⟨fun _ _ h _ => h, fun _ _ _ k z => k (h _ z)⟩
theorem Adv.rd {O O' : Addr → Prop} {H H' : Hp} (m : Adv O O' H H') {a : Addr} {u : HO} (n : ¬ O a) (r : Rd H a u) : ¬ O' a ∧ Rd H' a u := by
  rcases r with r | ⟨o, r⟩
  · exact ⟨m.2 _ _ r n, .inl (m.1 _ _ r (.inl n))⟩
  · exact ⟨m.2 _ _ r n, .inr ⟨o, m.1 _ _ r (.inl n)⟩⟩

theorem Is.mono {O O' : Addr → Prop} {H H' : Hp} (m : Adv O O' H H') {v : V} {d : PyData} (h : Is O H v d) : Is O' H' v d := by
  induction h using Is.rec (motive_2 := fun xs ds _ => IsAll O' H' xs ds) (motive_3 := fun xs ds _ => IsK O' H' xs ds) (motive_4 := fun xs ds _ => IsT O' H' xs ds) with
  | non => exact .non
  | bl b => exact .bl b
  | int i => exact .int i
  | str x => exact .str x
  | lst n r _ ih => exact .lst (m.2 _ _ r n) (m.1 _ _ r (.inl n)) ih
  | tup r _ ih => exact .tup (m.1 _ _ r (.inr rfl)) ih
  | dK n r _ ih => exact .dK (m.rd n r).1 (m.rd n r).2 ih
  | dT n r _ ih => exact .dT (m.rd n r).1 (m.rd n r).2 ih
  | nil => exact .nil
  | cons _ _ h1 h2 => exact .cons h1 h2
  | nilK => exact .nilK
  | consK _ _ h1 h2 => exact .consK h1 h2
  | nilT => exact .nilT
  | consT _ _ h1 h2 => exact .consT h1 h2
theorem IsAll.mono {O O' : Addr → Prop} {H H' : Hp} (m : Adv O O' H H') : ∀ {vs : List V} {ds : List PyData}, IsAll O H vs ds → IsAll O' H' vs ds
  | _, _, .nil => .nil
  | _, _, .cons h t => .cons (h.mono m) (IsAll.mono m t)
theorem IsK.mono {O O' : Addr → Prop} {H H' : Hp} (m : Adv O O' H H') : ∀ {vs : List (Key × V)} {ds : List (PyData × PyData)}, IsK O H vs ds → IsK O' H' vs ds
  | _, _, .nilK => .nilK
  | _, _, .consK h t => .consK (h.mono m) (IsK.mono m t)
theorem IsT.mono {O O' : Addr → Prop} {H H' : Hp} (m : Adv O O' H H') : ∀ {vs : List (List Key × V)} {ds : List (PyData × PyData)}, IsT O H vs ds → IsT O' H' vs ds
  | _, _, .nilT => .nilT
  | _, _, .consT h t => .consT (h.mono m) (IsT.mono m t)
theorem IsAll.length {O : Addr → Prop} {H : Hp} : ∀ {vs : List V} {ds : List PyData}, IsAll O H vs ds → vs.length = ds.length
  | _, _, .nil => rfl
  | _, _, .cons _ t => congrArg Nat.succ (IsAll.length t)
theorem IsAll.get {O : Addr → Prop} {H : Hp} : ∀ {vs : List V} {ds : List PyData} {i : Nat} {d : PyData}, IsAll O H vs ds → ds[i]? = some d → ∃ v, vs[i]? = some v ∧ Is O H v d
  | _, _, _, _, .nil, e => by simp at e
  | _, _, 0, _, .cons r _, e => by simp at e; subst e; exact ⟨_, rfl, r⟩
  | _, _, i + 1, d, .cons _ t, e => by
    obtain ⟨u, h1, h2⟩ := IsAll.get (i := i) (d := d) t (by simpa using e)
    exact ⟨u, by simpa using h1, h2⟩
theorem IsAll.append {O : Addr → Prop} {H : Hp} : ∀ {xs ys : List V} {ds es : List PyData}, IsAll O H xs ds → IsAll O H ys es → IsAll O H (xs ++ ys) (ds ++ es)
  | _, _, _, _, .nil, s => s
  | _, _, _, _, .cons r t, s => .cons r (IsAll.append t s)
theorem IsAll.set {O : Addr → Prop} {H : Hp} {v : V} {d : PyData} (h : Is O H v d) : ∀ {xs : List V} {ds : List PyData} (i : Nat), IsAll O H xs ds → IsAll O H (xs.set i v) (ds.set i d)
  | _, _, _, .nil => .nil
  | _, _, 0, .cons _ t => .cons h t
  | _, _, i + 1, .cons q t => .cons q (IsAll.set h i t)
theorem IsAll.take {O : Addr → Prop} {H : Hp} : ∀ {xs : List V} {ds : List PyData} (n : Nat), IsAll O H xs ds → IsAll O H (xs.take n) (ds.take n)
  | _, _, 0, _ => .nil
  | _, _, _ + 1, .nil => .nil
  | _, _, n + 1, .cons r t => .cons r (IsAll.take n t)
theorem IsAll.drop {O : Addr → Prop} {H : Hp} : ∀ {xs : List V} {ds : List PyData} (n : Nat), IsAll O H xs ds → IsAll O H (xs.drop n) (ds.drop n)
  | _, _, 0, r => r
  | _, _, _ + 1, .nil => .nil
  | _, _, n + 1, .cons _ t => IsAll.drop n t
theorem IsAll.dropLast {O : Addr → Prop} {H : Hp} {xs : List V} {ds : List PyData} (h : IsAll O H xs ds) : IsAll O H xs.dropLast ds.dropLast := by
  rw [List.dropLast_eq_take, List.dropLast_eq_take, h.length]
  exact h.take _
theorem IsAll.reverse {O : Addr → Prop} {H : Hp} : ∀ {xs : List V} {ds : List PyData}, IsAll O H xs ds → IsAll O H xs.reverse ds.reverse
  | _, _, .nil => .nil
  | _, _, .cons r t => by
    rw [List.reverse_cons, List.reverse_cons]
    exact (IsAll.reverse t).append (.cons r .nil)

/-! ### data without lists and dicts: it does not matter where they stand -/
mutual
def flat : PyData → Bool
  | .none => true
  | .bool _ => true
  | .int _ => true
  | .str _ => true
  | .list _ => false
  | .tuple xs => flats xs
  | .dict _ => false
def flats : List PyData → Bool
  | [] => true
  | d :: ds => flat d && flats ds
end
theorem Is.flat_any {O O' : Addr → Prop} {H : Hp} {v : V} {d : PyData} (h : Is O H v d) (f : flat d = true) : Is O' H v d := by
  revert f
  induction h using Is.rec (motive_2 := fun xs ds _ => flats ds = true → IsAll O' H xs ds) (motive_3 := fun xs ds _ => True) (motive_4 := fun xs ds _ => True) with
  | non => exact fun _ => .non
  | bl b => exact fun _ => .bl b
  | int i => exact fun _ => .int i
  | str x => exact fun _ => .str x
  | lst n r _ ih => intro f; simp [flat] at f
  | tup r _ ih => intro f; exact .tup r (ih (by simpa [flat] using f))
  | dK n r _ ih => intro f; simp [flat] at f
  | dT n r _ ih => intro f; simp [flat] at f
  | nil => first | exact IsAll.nil | exact fun _ => IsAll.nil
  | cons _ _ h1 h2 =>
    rename_i f
    simp only [flats, Bool.and_eq_true] at f
    exact .cons (h1 f.1) (h2 f.2)
  | nilK => trivial
  | consK _ _ _ _ => trivial
  | nilT => trivial
  | consT _ _ _ _ => trivial

/-! ### the names' values as data -/
inductive Cell where
  /-- data that is written no more -/
  | val (d : PyData)
  /-- the def's own container at a: no one else holds it -/
  | own (a : Addr) (d : PyData)
  /-- data of its own: all its lists and dicts stand at P, no one else holds them -/
  | deep (P : Addr → Prop) (d : PyData)
abbrev DEnv := List (Option Cell)
/-- where a cell's own containers stand -/
def cellA : Cell → Addr → Prop
  | .val _, _ => False
  | .own a _, b => b = a
  | .deep P _, b => P b
/-- O: the callers' own containers; H0: the heap at the entry; mu: the containers that the def may write though it did not make them -/
structure Bs where
  O : Addr → Prop
  H0 : Hp
  mu : Addr → Prop
def owns (ρ : DEnv) (a : Addr) : Prop := ∃ (i : Nat) (c : Cell), ρ[i]? = some (some c) ∧ cellA c a
def OW (B : Bs) (ρ : DEnv) (a : Addr) : Prop := B.O a ∨ owns ρ a
/-- what an own container holds -/
inductive Hold (O : Addr → Prop) (H : Hp) : HO → PyData → Prop
  | lst {xs : List V} {ds : List PyData} : IsAll O H xs ds → Hold O H (.lst xs) (.list ds)
  | dK {kvs : List (Key × V)} {es : List (PyData × PyData)} : IsK O H kvs es → Hold O H (.dK kvs) (.dict es)
  | dT {kvs : List (List Key × V)} {es : List (PyData × PyData)} : IsT O H kvs es → Hold O H (.dT kvs) (.dict ((.none, .none) :: es))
theorem Hold.mono {O O' : Addr → Prop} {H H' : Hp} {u : HO} {d : PyData} (m : Adv O O' H H') (h : Hold O H u d) : Hold O' H' u d := by
  cases h with
  | lst r => exact .lst (r.mono m)
  | dK r => exact .dK (r.mono m)
  | dT r => exact .dT (r.mono m)
theorem Hold.nt {O : Addr → Prop} {H : Hp} {u : HO} {d : PyData} (h : Hold O H u d) : isTup u = false := by
  cases h <;> rfl
/-- what stands at an own address -/
def Top (O : Addr → Prop) (H : Hp) (a : Addr) (d : PyData) : Prop := ∃ u, H a = some u ∧ Hold O H u d
theorem Top.trk {O : Addr → Prop} {H : Hp} {a : Addr} {d : PyData} (h : Top O H a d) : ∃ o, H a = some o ∧ isTup o = false := by
  obtain ⟨u, e, h⟩ := h
  exact ⟨u, e, h.nt⟩
/-- the container itself is as it was -/
theorem Top.mono {O O' : Addr → Prop} {H H' : Hp} {a : Addr} {d : PyData} (m : Adv O O' H H') (e : H' a = H a) (h : Top O H a d) : Top O' H' a d := by
  obtain ⟨u, q, h⟩ := h
  exact ⟨u, e.trans q, h.mono m⟩
theorem Top.is {O : Addr → Prop} {H : Hp} {a : Addr} {d : PyData} (n : ¬ O a) (h : Top O H a d) : Is O H (.ref a) d := by
  obtain ⟨u, q, h⟩ := h
  cases h with
  | lst r => exact .lst n q r
  | dK r => exact .dK n (.inl q) r
  | dT r => exact .dT n (.inl q) r


def CellIs (O : Addr → Prop) (H : Hp) (v : V) : Cell → Prop
  | .val d => Is O H v d
  | .own a d => v = .ref a ∧ Top O H a d
  | .deep P d => Is (fun b => ¬ P b) H v d
theorem CellIs.mono {O O' : Addr → Prop} {H H' : Hp} {v : V} {c : Cell} (m : Adv O O' H H') (k : ∀ a o, cellA c a → H a = some o → H' a = some o) (t : ∀ a o, H a = some o → isTup o = true → H' a = some o) (h : CellIs O H v c) : CellIs O' H' v c := by
  cases c with
  | val d => exact Is.mono m h
  | own a d =>
    obtain ⟨h1, u, h2, h3⟩ := h
    exact ⟨h1, u, k a u rfl h2, h3.mono m⟩
  | deep P d =>
    refine Is.mono (O := fun b => ¬ P b) (O' := fun b => ¬ P b) ⟨fun b o e z => ?_, fun b o e z => z⟩ h
    rcases z with z | z
    · exact k b o (Classical.byContradiction z) e
    · exact t b o e z

structure Rep (B : Bs) (ρ : DEnv) (σ : L2.St) (H : Hp) : Prop where
  len : ρ.length = σ.length
  trk : ∀ a, B.O a → ∃ o, H a = some o ∧ isTup o = false
  cel : ∀ (i : Nat) (c : Cell), ρ[i]? = some (some c) → ∃ v, σ[i]? = some (some v) ∧ CellIs (OW B ρ) H v c
  adr : ∀ (i : Nat) (c : Cell) (a : Addr), ρ[i]? = some (some c) → cellA c a → (∃ o, H a = some o ∧ isTup o = false) ∧ ¬ B.O a ∧ (B.mu a ∨ B.H0 a = none)
  inj : ∀ (i j : Nat) (c c' : Cell) (a : Addr), ρ[i]? = some (some c) → ρ[j]? = some (some c') → cellA c a → cellA c' a → i = j
  keep : ∀ b o, B.H0 b = some o → ¬ B.mu b → H b = some o
section
variable {B : Bs} {ρ : DEnv} {σ : L2.St} {H H' : Hp}
theorem Rep.ow (R : Rep B ρ σ H) {a : Addr} (h : OW B ρ a) : ∃ o, H a = some o ∧ isTup o = false := by
  rcases h with h | ⟨i, c, h, z⟩
  · exact R.trk a h
  · exact (R.adr i c a h z).1
/-- a new address is no own one -/
theorem Rep.new (R : Rep B ρ σ H) {p : Addr} (h : H p = none) : ¬ OW B ρ p := fun z => by
  obtain ⟨o, e, _⟩ := R.ow z
  rw [h] at e; cases e
theorem Rep.val (R : Rep B ρ σ H) (i : Nat) (d : PyData) (h : ρ[i]? = some (some (.val d))) : ∃ v, σ[i]? = some (some v) ∧ Is (OW B ρ) H v d := R.cel i _ h
theorem Rep.own (R : Rep B ρ σ H) (i : Nat) (a : Addr) (d : PyData) (h : ρ[i]? = some (some (.own a d))) : σ[i]? = some (some (.ref a)) ∧ ¬ B.O a ∧ Top (OW B ρ) H a d ∧ (B.mu a ∨ B.H0 a = none) := by
  obtain ⟨v, h1, h2, h3⟩ := R.cel i _ h
  subst h2
  obtain ⟨_, h4, h5⟩ := R.adr i _ a h rfl
  exact ⟨h1, h4, h3, h5⟩
/-- a new object that is no own container -/
theorem Adv.new {O : Addr → Prop} {p : Addr} {u : HO} (h : H p = none) : Adv O O H (upd H p u) := by
  refine ⟨fun b o e _ => ?_, fun _ _ _ k => k⟩
  rw [upd_ne (ne_of_none e h)]
  exact e
theorem same_new {p : Addr} {u : HO} (h : H p = none) : Same H (upd H p u) := fun b o e => by
  rw [upd_ne (ne_of_none e h)]
  exact e
theorem Adv.same {O : Addr → Prop} (s : Same H H') : Adv O O H H' := ⟨fun b o e _ => s b o e, fun _ _ _ k => k⟩
/-- all that was tracked stands: the state is told as before -/
theorem Rep.same (R : Rep B ρ σ H) (s : Same H H') : Rep B ρ σ H' := by
  refine ⟨R.len, fun a h => ?_, fun i c e => ?_, fun i c a h z => ?_, R.inj, fun b o e n => s _ _ (R.keep b o e n)⟩
  · obtain ⟨o, e, t⟩ := R.trk a h
    exact ⟨o, s _ _ e, t⟩
  · obtain ⟨v, h1, h2⟩ := R.cel i c e
    exact ⟨v, h1, h2.mono (.same s) (fun a o _ e => s _ _ e) fun a o e _ => s _ _ e⟩
  · obtain ⟨⟨o, e, t⟩, h2⟩ := R.adr i c a h z
    exact ⟨⟨o, s _ _ e, t⟩, h2⟩

theorem get_set_cases {α : Type} {l : List (Option α)} {i j : Nat} {x : Option α} {y : α} (h : (l.set i x)[j]? = some (some y)) : (j = i ∧ x = some y ∧ i < l.length) ∨ (j ≠ i ∧ l[j]? = some (some y)) := by
  by_cases e : j = i
  · subst e
    by_cases hl : j < l.length
    · rw [List.getElem?_set_self hl] at h
      exact .inl ⟨rfl, Option.some.inj h, hl⟩
    · rw [List.getElem?_eq_none (by rw [List.length_set]; omega)] at h
      cases h
  · rw [List.getElem?_set_ne (Ne.symm e)] at h
    exact .inr ⟨e, h⟩
theorem owns_set {i : Nat} {c : Option Cell} {a : Addr} (h : owns (ρ.set i c) a) : (∃ d, c = some d ∧ cellA d a) ∨ owns ρ a := by
  obtain ⟨j, d, e, z⟩ := h
  rcases get_set_cases e with ⟨_, e1, _⟩ | ⟨_, e1⟩
  · exact .inl ⟨d, e1, z⟩
  · exact .inr ⟨j, d, e1, z⟩
/-- a cell is set; H' is H but at addresses of the new cell -/
theorem Rep.setCell (R : Rep B ρ σ H) {i : Nat} {v : V} {c : Cell} (m : Adv (OW B ρ) (OW B (ρ.set i (some c))) H H') (h : CellIs (OW B (ρ.set i (some c))) H' v c)
    (hO : ∀ a o, B.O a → H a = some o → H' a = some o) (hk : ∀ b o, B.H0 b = some o → ¬ B.mu b → H b = some o → H' b = some o)
    (ha : ∀ a, cellA c a → (∃ o, H' a = some o ∧ isTup o = false) ∧ ¬ B.O a ∧ (B.mu a ∨ B.H0 a = none)) (hd : ∀ (j : Nat) (c' : Cell) (a : Addr), j ≠ i → ρ[j]? = some (some c') → cellA c' a → ¬ cellA c a)
    (ht : ∀ a o, H a = some o → isTup o = true → H' a = some o) (he : ∀ (j : Nat) (c' : Cell) (a : Addr) (o : HO), j ≠ i → ρ[j]? = some (some c') → cellA c' a → H a = some o → H' a = some o) :
    Rep B (ρ.set i (some c)) (σ.set i (some v)) H' := by
  refine ⟨by rw [List.length_set, List.length_set]; exact R.len, fun a h => ?_, fun j c' hj => ?_, fun j c' a hj z => ?_, fun j k c1 c2 a hj hk z1 z2 => ?_, fun b o e n => hk b o e n (R.keep b o e n)⟩
  · obtain ⟨o, e, t⟩ := R.trk a h
    exact ⟨o, hO a o h e, t⟩
  · rcases get_set_cases hj with ⟨rfl, e1, hl⟩ | ⟨ne, hj1⟩
    · cases e1
      exact ⟨v, by rw [List.getElem?_set_self (by rw [← R.len]; exact hl)], h⟩
    · obtain ⟨w, h1, h2⟩ := R.cel j c' hj1
      exact ⟨w, by rw [List.getElem?_set_ne (Ne.symm ne)]; exact h1, h2.mono m (fun a o z e => he j c' a o ne hj1 z e) ht⟩
  · rcases get_set_cases hj with ⟨rfl, e1, hl⟩ | ⟨ne, hj1⟩
    · cases e1
      exact ha a z
    · obtain ⟨⟨o, e, t⟩, h2⟩ := R.adr j c' a hj1 z
      exact ⟨⟨o, he j c' a o ne hj1 z e, t⟩, h2⟩
  · rcases get_set_cases hj with ⟨rfl, e1, hl⟩ | ⟨ne, hj1⟩
    · cases e1
      rcases get_set_cases hk with ⟨rfl, e1, hl⟩ | ⟨ne', hk1⟩
      · rfl
      · exact absurd z1 (hd k c2 a ne' hk1 z2)
    · rcases get_set_cases hk with ⟨rfl, e1, hl⟩ | ⟨ne', hk1⟩
      · cases e1
        exact absurd z2 (hd j c1 a ne hj1 z1)
      · exact R.inj j k c1 c2 a hj1 hk1 z1 z2
/-- a name is given data -/
theorem Rep.setVal (R : Rep B ρ σ H) {i : Nat} {v : V} {d : PyData} (h : Is (OW B ρ) H v d) :
    Rep B (ρ.set i (some (.val d))) (σ.set i (some v)) H ∧ Adv (OW B ρ) (OW B (ρ.set i (some (.val d)))) H H := by
  have sub : ∀ a, OW B (ρ.set i (some (.val d))) a → OW B ρ a := fun a z => z.elim .inl fun z => (owns_set z).elim (fun ⟨_, e, z⟩ => by cases e; exact z.elim) .inr
  have m := Adv.sub (H := H) sub
  exact ⟨R.setCell m (h.mono m) (fun _ _ _ e => e) (fun _ _ _ _ e => e) (fun a z => z.elim) (fun _ _ _ _ _ _ z => z) (fun _ _ e _ => e) (fun _ _ _ _ _ _ _ e => e), m⟩
/-- a name loses its value (it is not asked any more) -/
theorem Rep.wipe (R : Rep B ρ σ H) {i : Nat} (x : Option V) : Rep B (ρ.set i none) (σ.set i x) H ∧ Adv (OW B ρ) (OW B (ρ.set i none)) H H := by
  have sub : ∀ a, OW B (ρ.set i none) a → OW B ρ a := fun a z => z.elim .inl fun z => (owns_set z).elim (fun ⟨_, e, z⟩ => by cases e) .inr
  have m := Adv.sub (H := H) sub
  refine ⟨⟨by rw [List.length_set, List.length_set]; exact R.len, R.trk, fun j c hj => ?_, fun j c a hj z => ?_, fun j k c1 c2 a hj hk z1 z2 => ?_, R.keep⟩, m⟩
  · rcases get_set_cases hj with ⟨rfl, e1, hl⟩ | ⟨ne, hj1⟩
    · cases e1
    · obtain ⟨w, h1, h2⟩ := R.cel j c hj1
      exact ⟨w, by rw [List.getElem?_set_ne (Ne.symm ne)]; exact h1, h2.mono m (fun _ _ _ e => e) fun _ _ e _ => e⟩
  · rcases get_set_cases hj with ⟨rfl, e1, hl⟩ | ⟨ne, hj1⟩
    · cases e1
    · exact R.adr j c a hj1 z
  · rcases get_set_cases hj with ⟨rfl, e1, hl⟩ | ⟨ne, hj1⟩
    · cases e1
    · rcases get_set_cases hk with ⟨rfl, e1, hl⟩ | ⟨ne', hk1⟩
      · cases e1
      · exact R.inj j k c1 c2 a hj1 hk1 z1 z2
theorem set_same {α : Type} : ∀ {l : List α} {i : Nat} {x : α}, l[i]? = some x → l.set i x = l
  | [], i, x, h => by simp at h
  | y :: l, 0, x, h => by
    cases h
    rfl
  | y :: l, i + 1, x, h => by
    rw [List.set_cons_succ, set_same (l := l) (by simpa using h)]
/-- own containers are written no more -/
theorem Rep.freeze (R : Rep B ρ σ H) {i : Nat} {c : Cell} {v : V} {d : PyData} (h : ρ[i]? = some (some c)) (hv : σ[i]? = some (some v)) (is : Is (fun b => OW B ρ b ∧ ¬ cellA c b) H v d) :
    Rep B (ρ.set i (some (.val d))) σ H ∧ Is (OW B (ρ.set i (some (.val d)))) H v d ∧ Adv (OW B ρ) (OW B (ρ.set i (some (.val d)))) H H := by
  have sub : ∀ a, OW B (ρ.set i (some (.val d))) a → OW B ρ a ∧ ¬ cellA c a := fun a z => by
    rcases z with z | ⟨j, c', e, z⟩
    · exact ⟨.inl z, fun y => (R.adr i c a h y).2.1 z⟩
    · rcases get_set_cases e with ⟨rfl, e1, hl⟩ | ⟨ne, hj1⟩
      · cases e1; exact z.elim
      · exact ⟨.inr ⟨j, c', hj1, z⟩, fun y => ne (R.inj j i c' c a hj1 h z y)⟩
  have m := Adv.sub (H := H) fun a z => (sub a z).1
  have is' : Is (OW B (ρ.set i (some (.val d)))) H v d := is.mono (Adv.sub sub)
  have R' := R.setCell (i := i) (v := v) (c := .val d) m is' (fun _ _ _ e => e) (fun _ _ _ _ e => e) (fun a z => z.elim) (fun _ _ _ _ _ _ z => z) (fun _ _ e _ => e) (fun _ _ _ _ _ _ _ e => e)
  rw [set_same hv] at R'
  exact ⟨R', is', m⟩
/-- the container at i is written (by a call, perhaps): what stands there now is data outside the own ones -/
theorem Rep.writeBy (R : Rep B ρ σ H) {i : Nat} {a : Addr} {d d' : PyData} (h : ρ[i]? = some (some (.own a d))) (kp : ∀ b o, H b = some o → b ≠ a → H' b = some o)
    (t : Top (OW B ρ) H' a d') : Rep B (ρ.set i (some (.own a d'))) σ H' ∧ Adv (OW B ρ) (OW B (ρ.set i (some (.own a d')))) H H' := by
  obtain ⟨g1, g2, g3, g4⟩ := R.own i a d h
  have oa : OW B ρ a := .inr ⟨i, _, h, rfl⟩
  have sub : ∀ b, OW B (ρ.set i (some (.own a d'))) b → OW B ρ b := fun b z => z.elim .inl fun z => (owns_set z).elim (fun ⟨_, e, z⟩ => by cases e; cases (show b = a from z); exact oa) .inr
  have nt : ∀ b o, H b = some o → isTup o = true → b ≠ a := fun b o e k z => by
    subst z
    obtain ⟨o', e', t'⟩ := g3.trk
    rw [e] at e'; cases e'; rw [k] at t'; cases t'
  have m : Adv (OW B ρ) (OW B (ρ.set i (some (.own a d')))) H H' := by
    refine ⟨fun b o e k => ?_, fun b o e k z => k (sub b z)⟩
    have ne : b ≠ a := by
      rintro rfl
      rcases k with k | k
      · exact k oa
      · exact nt _ o e k rfl
    exact kp b o e ne
  have R' := R.setCell (i := i) (v := .ref a) (c := .own a d') m ⟨rfl, t.mono (Adv.sub sub) rfl⟩ (fun b o z e => kp b o e fun y => g2 (y ▸ z)) (fun b o e n q => kp b o q fun y => ?_)
    (fun b z => ?_) (fun j c' b ne hj z y => ?_) (fun b o e k => kp b o e (nt b o e k)) (fun j c' b o ne hj z e => kp b o e fun y => ?_)
  · rw [set_same g1] at R'
    exact ⟨R', m⟩
  · subst y
    rcases g4 with z | z
    · exact n z
    · rw [z] at e; cases e
  · cases (show b = a from z)
    exact ⟨t.trk, g2, g4⟩
  · cases (show b = a from y)
    exact ne (R.inj j i c' _ _ hj h z rfl)
  · subst y
    exact ne (R.inj j i c' _ _ hj h z rfl)
theorem Rep.write (R : Rep B ρ σ H) {i : Nat} {a : Addr} {d d' : PyData} {u : HO} (h : ρ[i]? = some (some (.own a d)))
    (t : Hold (OW B ρ) H u d') : Rep B (ρ.set i (some (.own a d'))) σ (upd H a u) ∧ Adv (OW B ρ) (OW B (ρ.set i (some (.own a d')))) H (upd H a u) := by
  have kp : ∀ b o, H b = some o → b ≠ a → upd H a u b = some o := fun b o e ne => by rw [upd_ne ne]; exact e
  have oa : OW B ρ a := .inr ⟨i, _, h, rfl⟩
  have m : Adv (OW B ρ) (OW B ρ) H (upd H a u) := by
    refine ⟨fun b o e k => kp b o e ?_, fun _ _ _ k => k⟩
    rintro rfl
    rcases k with k | k
    · exact k oa
    · obtain ⟨o', e', t'⟩ := R.ow oa
      rw [e] at e'; cases e'; rw [k] at t'; cases t'
  exact R.writeBy h kp ⟨u, upd_same, t.mono m⟩
/-- those at P too are own containers, of no name -/
def Bs.more (B : Bs) (P : Addr → Prop) : Bs := { B with O := fun b => B.O b ∨ P b }
abbrev Bs.plus (B : Bs) (p : Addr) : Bs := B.more (· = p)
/-- new containers that no name holds yet -/
theorem Rep.freshen (R : Rep B ρ σ H) {P : Addr → Prop} (hs : Same H H') (hp : ∀ p, P p → H p = none ∧ ∃ o, H' p = some o ∧ isTup o = false) :
    Rep (B.more P) ρ σ H' ∧ Adv (OW B ρ) (OW (B.more P) ρ) H H' := by
  have m : Adv (OW B ρ) (OW (B.more P) ρ) H H' := by
    refine ⟨fun b o e k => hs b o e, fun b o e k z => ?_⟩
    rcases z with (z | z) | z
    · exact k (.inl z)
    · have := (hp b z).1; rw [e] at this; cases this
    · exact k (.inr z)
  refine ⟨⟨R.len, fun a h => ?_, fun i c h => ?_, fun i c a h z => ?_, R.inj, fun b o e n => hs _ _ (R.keep b o e n)⟩, m⟩
  · rcases h with h | h
    · obtain ⟨o, e, tt⟩ := R.trk a h
      exact ⟨o, hs _ _ e, tt⟩
    · exact (hp a h).2
  · obtain ⟨w, h1, h2⟩ := R.cel i c h
    exact ⟨w, h1, h2.mono m (fun a o _ e => hs _ _ e) fun a o e _ => hs _ _ e⟩
  · obtain ⟨⟨o, e, t⟩, h2, h3⟩ := R.adr i c a h z
    exact ⟨⟨o, hs _ _ e, t⟩, fun y => y.elim h2 fun y => (by have := (hp a y).1; rw [e] at this; cases this), h3⟩
theorem Rep.fresh (R : Rep B ρ σ H) {p : Addr} {u : HO} {d : PyData} (hp : H p = none) (t : Hold (OW B ρ) H u d) :
    Rep (B.plus p) ρ σ (upd H p u) ∧ Top (OW (B.plus p) ρ) (upd H p u) p d ∧ Adv (OW B ρ) (OW (B.plus p) ρ) H (upd H p u) := by
  obtain ⟨R', m⟩ := R.freshen (P := (· = p)) (same_new (u := u) hp) fun q e => by
    cases (show q = p from e)
    exact ⟨hp, u, upd_same, t.nt⟩
  exact ⟨R', ⟨u, upd_same, t.mono m⟩, m⟩
/-- .. and a name is given them -/
theorem Rep.adoptC {P : Addr → Prop} (R : Rep (B.more P) ρ σ H) {i : Nat} {v : V} {c : Cell} (hc : ∀ a, cellA c a → P a) (t : CellIs (OW (B.more P) ρ) H v c) (hp : ∀ p, cellA c p → ¬ B.O p ∧ (B.mu p ∨ B.H0 p = none)) :
    Rep B (ρ.set i (some c)) (σ.set i (some v)) H ∧ Adv (OW (B.more P) ρ) (OW B (ρ.set i (some c))) H H := by
  have sub : ∀ a, OW B (ρ.set i (some c)) a → OW (B.more P) ρ a := fun a z => z.elim (fun z => .inl (.inl z)) fun z => (owns_set z).elim (fun ⟨_, e, z⟩ => by cases e; exact .inl (.inr (hc a z))) .inr
  have m := Adv.sub (H := H) sub
  have m2 : Adv (OW (B.more P) ρ) (OW B ρ) H H := Adv.sub fun a z => z.elim (fun z => .inl (.inl z)) .inr
  have R0 : Rep B ρ σ H := ⟨R.len, fun a h => R.trk a (.inl h), fun j c' h => let ⟨w, h1, h2⟩ := R.cel j c' h; ⟨w, h1, h2.mono m2 (fun _ _ _ e => e) fun _ _ e _ => e⟩,
    fun j c' a h z => let ⟨h1, h2, h3⟩ := R.adr j c' a h z; ⟨h1, fun y => h2 (.inl y), h3⟩, R.inj, R.keep⟩
  have np : ∀ (j : Nat) (c' : Cell) (a : Addr), ρ[j]? = some (some c') → cellA c' a → ¬ P a := fun j c' a h z y => (R.adr j c' a h z).2.1 (.inr y)
  have m3 : Adv (OW B ρ) (OW B (ρ.set i (some c))) H H → True := fun _ => trivial
  refine ⟨⟨by rw [List.length_set, List.length_set]; exact R.len, R0.trk, fun j c' hj => ?_, fun j c' a hj z => ?_, fun j k c1 c2 a hj hk z1 z2 => ?_, R.keep⟩, m⟩
  · rcases get_set_cases hj with ⟨rfl, e1, hl⟩ | ⟨ne, hj1⟩
    · cases e1
      exact ⟨v, by rw [List.getElem?_set_self (by rw [← R.len]; exact hl)], t.mono m (fun _ _ _ e => e) fun _ _ e _ => e⟩
    · obtain ⟨w, h1, h2⟩ := R.cel j c' hj1
      exact ⟨w, by rw [List.getElem?_set_ne (Ne.symm ne)]; exact h1, h2.mono m (fun _ _ _ e => e) fun _ _ e _ => e⟩
  · rcases get_set_cases hj with ⟨rfl, e1, hl⟩ | ⟨ne, hj1⟩
    · cases e1
      exact ⟨R.trk a (.inr (hc a z)), hp a z⟩
    · exact R0.adr j c' a hj1 z
  · rcases get_set_cases hj with ⟨rfl, e1, hl⟩ | ⟨ne, hj1⟩
    · cases e1
      rcases get_set_cases hk with ⟨rfl, e1, hl⟩ | ⟨ne', hk1⟩
      · rfl
      · exact absurd (hc a z1) (np k c2 a hk1 z2)
    · rcases get_set_cases hk with ⟨rfl, e1, hl⟩ | ⟨ne', hk1⟩
      · cases e1
        exact absurd (hc a z2) (np j c1 a hj1 z1)
      · exact R.inj j k c1 c2 a hj1 hk1 z1 z2
theorem Rep.adopt {p : Addr} (R : Rep (B.plus p) ρ σ H) {i : Nat} {d : PyData} (t : Top (OW (B.plus p) ρ) H p d) (n : ¬ B.O p) (hm : B.mu p ∨ B.H0 p = none) :
    Rep B (ρ.set i (some (.own p d))) (σ.set i (some (.ref p))) H ∧ Adv (OW (B.plus p) ρ) (OW B (ρ.set i (some (.own p d)))) H H :=
  R.adoptC (fun a z => z) ⟨rfl, t⟩ fun q z => by
    cases (show q = p from z)
    exact ⟨n, hm⟩
/-- .. or no name is -/
theorem Rep.drop {P : Addr → Prop} (R : Rep (B.more P) ρ σ H) : Rep B ρ σ H ∧ Adv (OW (B.more P) ρ) (OW B ρ) H H := by
  have m2 : Adv (OW (B.more P) ρ) (OW B ρ) H H := Adv.sub fun a z => z.elim (fun z => .inl (.inl z)) .inr
  exact ⟨⟨R.len, fun a h => R.trk a (.inl h), fun j c' h => let ⟨w, h1, h2⟩ := R.cel j c' h; ⟨w, h1, h2.mono m2 (fun _ _ _ e => e) fun _ _ e _ => e⟩,
    fun j c' a h z => let ⟨h1, h2, h3⟩ := R.adr j c' a h z; ⟨h1, fun y => h2 (.inl y), h3⟩, R.inj, R.keep⟩, m2⟩
/-- what is new now was not there at the entry, or may be written -/
theorem Rep.entry (R : Rep B ρ σ H) {p : Addr} (hp : H p = none) : ¬ B.O p ∧ (B.mu p ∨ B.H0 p = none) := by
  refine ⟨fun z => R.new hp (.inl z), ?_⟩
  by_cases hm : B.mu p
  · exact .inl hm
  · refine .inr ?_
    cases q : B.H0 p with
    | none => rfl
    | some o =>
      have := R.keep p o q hm
      rw [hp] at this; cases this
end
end DL
namespace DL
open PySem PySem.Spec PyProof.Rows L2

/-! ### texts as lists of signs -/
def L (x : Str) : List Nat := x.cps.toList
def mk (l : List Nat) : Str := ⟨l.toArray⟩
abbrev S (l : List Nat) : PyData := .str (mk l)
theorem L_mk (l : List Nat) : L (mk l) = l := rfl
theorem mk_L (x : Str) : mk (L x) = x := by
  cases x
  rfl
theorem L_len (x : Str) : (L x).length = x.length := by
  show x.cps.toList.length = x.cps.size
  rw [Array.length_toList]
theorem L_app (x y : Str) : mk (L x ++ L y) = x ++ y := by
  have e : L (x ++ y) = L x ++ L y := by
    show (x.cps ++ y.cps).toList = _
    rw [Array.toList_append]
    rfl
  rw [← e, mk_L]
theorem mk_inj {l m : List Nat} (h : mk l = mk m) : l = m := congrArg L h

/-! ### operands, readings on data -/
/-- an operand: data, or what the name at a place holds -/
inductive OV where
  | vl (d : PyData)
  | nm (i : Nat)
/-- read -/
def OV.rd (o : OV) (ρ : DEnv) (k : PyData → Prop) : Prop := match o with
  | .vl d => k d
  | .nm i => match ρ[i]? with
    | some (some (.val d)) => k d
    | some (some (.own _ d)) => k d
    | _ => False
/-- handed on: an own container is written no more from here on -/
def OV.tk (o : OV) (ρ : DEnv) (k : PyData → DEnv → Prop) : Prop := match o with
  | .vl d => k d ρ
  | .nm i => match ρ[i]? with
    | some (some (.val d)) => k d ρ
    | some (some (.own _ d)) => k d (ρ.set i (some (.val d)))
    | some (some (.deep _ d)) => k d (ρ.set i (some (.val d)))
    | _ => False
/-- looked at as a whole -/
def OV.rdx (o : OV) (ρ : DEnv) (k : PyData → Prop) : Prop := match o with
  | .vl d => k d
  | .nm i => match ρ[i]? with
    | some (some (.val d)) => k d
    | some (some (.own _ d)) => k d
    | some (some (.deep _ d)) => k d
    | _ => False
abbrev DT := DEnv → (OV → DEnv → Prop) → Prop
def OIs (B : Bs) (ρ : DEnv) (σ : L2.St) (H : Hp) (v : V) : OV → Prop
  | .vl d => Is (OW B ρ) H v d
  | .nm i => σ[i]? = some (some v)
/-- data that is looked at as a whole -/
def RdX (H : Hp) (v : V) (d : PyData) : Prop := ∃ O, Is O H v d
/-- data that is read: an own container's too -/
def RdB (O : Addr → Prop) (H : Hp) (v : V) (d : PyData) : Prop := Is O H v d ∨ ∃ a, v = .ref a ∧ Top O H a d
def upO (t : DT) : TE := fun σ H Q => ∃ B ρ q, Rep B ρ σ H ∧ t ρ q ∧ ∀ o ρ' v H', q o ρ' → Adv (OW B ρ) (OW B ρ') H H' → Rep B ρ' σ H' → OIs B ρ' σ H' v o → Q v H'
abbrev DO (X : Cx) (e : Expr) (t : DT) : Prop := PE X e (upO t)

theorem OIs.adv {B : Bs} {ρ ρ' : DEnv} {σ : L2.St} {H H' : Hp} {v : V} {o : OV} (h : OIs B ρ σ H v o) (m : Adv (OW B ρ) (OW B ρ') H H') : OIs B ρ' σ H' v o := by
  cases o with
  | vl d => exact Is.mono m h
  | nm i => exact h
theorem OIs.rd {B : Bs} {ρ : DEnv} {σ : L2.St} {H : Hp} {v : V} {o : OV} {k : PyData → Prop} (h : OIs B ρ σ H v o) (R : Rep B ρ σ H) (r : o.rd ρ k) : ∃ d, k d ∧ RdB (OW B ρ) H v d := by
  cases o with
  | vl d => exact ⟨d, r, .inl h⟩
  | nm i =>
    simp only [OV.rd] at r
    have h' : σ[i]? = some (some v) := h
    split at r
    · rename_i d e
      obtain ⟨w, e1, e2⟩ := R.val i d e
      rw [h'] at e1; cases e1
      exact ⟨d, r, .inl e2⟩
    · rename_i a d e
      obtain ⟨e1, e2, e3, _⟩ := R.own i a d e
      rw [h'] at e1; cases e1
      exact ⟨d, r, .inr ⟨a, rfl, e3⟩⟩
    · exact r.elim
theorem OIs.tk {B : Bs} {ρ : DEnv} {σ : L2.St} {H : Hp} {v : V} {o : OV} {k : PyData → DEnv → Prop} (h : OIs B ρ σ H v o) (R : Rep B ρ σ H) (r : o.tk ρ k) :
    ∃ d ρ', k d ρ' ∧ Is (OW B ρ') H v d ∧ Rep B ρ' σ H ∧ Adv (OW B ρ) (OW B ρ') H H := by
  cases o with
  | vl d => exact ⟨d, ρ, r, h, R, .refl⟩
  | nm i =>
    simp only [OV.tk] at r
    have h' : σ[i]? = some (some v) := h
    split at r
    · rename_i d e
      obtain ⟨w, e1, e2⟩ := R.val i d e
      rw [h'] at e1; cases e1
      exact ⟨d, ρ, r, e2, R, .refl⟩
    · rename_i a d e
      obtain ⟨e1, _, e3, _⟩ := R.own i a d e
      have e1' := e1
      rw [h'] at e1; cases e1
      have m : Adv (OW B ρ) (fun b => OW B ρ b ∧ ¬ cellA (.own a d) b) H H := Adv.sub fun _ z => z.1
      obtain ⟨f1, f2, f3⟩ := R.freeze e e1' ((e3.mono m rfl).is fun z => z.2 rfl)
      exact ⟨d, _, r, f2, f1, f3⟩
    · rename_i P d e
      obtain ⟨w, e1, e2⟩ := R.cel i _ e
      have e1' := e1
      rw [h'] at e1; cases e1
      have e3 : Is (fun b => ¬ P b) H v d := e2
      obtain ⟨f1, f2, f3⟩ := R.freeze e e1' (e3.mono (Adv.sub fun b z => z.2))
      exact ⟨d, _, r, f2, f1, f3⟩
    · exact r.elim
theorem OIs.rdx {B : Bs} {ρ : DEnv} {σ : L2.St} {H : Hp} {v : V} {o : OV} {k : PyData → Prop} (h : OIs B ρ σ H v o) (R : Rep B ρ σ H) (r : o.rdx ρ k) : ∃ d, k d ∧ RdX H v d := by
  cases o with
  | vl d => exact ⟨d, r, _, h⟩
  | nm i =>
    simp only [OV.rdx] at r
    have h' : σ[i]? = some (some v) := h
    split at r
    · rename_i d e
      obtain ⟨w, e1, e2⟩ := R.val i d e
      rw [h'] at e1; cases e1
      exact ⟨d, r, _, e2⟩
    · rename_i a d e
      obtain ⟨e1, e2, e3, _⟩ := R.own i a d e
      rw [h'] at e1; cases e1
      have m : Adv (OW B ρ) (fun b => OW B ρ b ∧ b ≠ a) H H := Adv.sub fun _ z => z.1
      exact ⟨d, r, _, (e3.mono m rfl).is fun z => z.2 rfl⟩
    · rename_i P d e
      obtain ⟨w, e1, e2⟩ := R.cel i _ e
      rw [h'] at e1; cases e1
      exact ⟨d, r, _, e2⟩
    · exact r.elim

section
variable {O : Addr → Prop} {H : Hp} {v : V}
theorem RdB.non (h : RdB O H v .none) : v = .non := by
  rcases h with h | ⟨a, _, u, _, h⟩
  · cases h; rfl
  · cases h
theorem RdB.bl {b : Bool} (h : RdB O H v (.bool b)) : v = .bl b := by
  rcases h with h | ⟨a, _, u, _, h⟩
  · cases h; rfl
  · cases h
theorem RdB.int {i : Int} (h : RdB O H v (.int i)) : v = .int i := by
  rcases h with h | ⟨a, _, u, _, h⟩
  · cases h; rfl
  · cases h
theorem RdB.str {x : Str} (h : RdB O H v (.str x)) : v = .str x := by
  rcases h with h | ⟨a, _, u, _, h⟩
  · cases h; rfl
  · cases h
theorem RdB.lst {ds : List PyData} (h : RdB O H v (.list ds)) : ∃ a xs, v = .ref a ∧ H a = some (.lst xs) ∧ IsAll O H xs ds := by
  rcases h with h | ⟨a, rfl, u, e, h⟩
  · cases h with
    | lst n r t => exact ⟨_, _, rfl, r, t⟩
  · cases h with
    | lst t => exact ⟨_, _, rfl, e, t⟩
theorem RdB.tup {ds : List PyData} (h : RdB O H v (.tuple ds)) : ∃ a xs, v = .ref a ∧ H a = some (.tup xs) ∧ IsAll O H xs ds := by
  rcases h with h | ⟨a, rfl, u, e, h⟩
  · cases h with
    | tup r t => exact ⟨_, _, rfl, r, t⟩
  · cases h
theorem Is.int' {i : Int} (h : Is O H v (.int i)) : v = .int i := RdB.int (.inl h)
theorem Is.str' {x : Str} (h : Is O H v (.str x)) : v = .str x := RdB.str (.inl h)
theorem Is.bl' {b : Bool} (h : Is O H v (.bool b)) : v = .bl b := RdB.bl (.inl h)
theorem Is.lst' {ds : List PyData} (h : Is O H v (.list ds)) : ∃ a xs, v = .ref a ∧ H a = some (.lst xs) ∧ IsAll O H xs ds := RdB.lst (.inl h)
theorem Is.tup' {ds : List PyData} (h : Is O H v (.tuple ds)) : ∃ a xs, v = .ref a ∧ H a = some (.tup xs) ∧ IsAll O H xs ds := RdB.tup (.inl h)
end
/-- a value that tells its data in every heap -/
def Sc (z : V) (d : PyData) : Prop := ∀ O H, Is O H z d
theorem Sc.int (i : Int) : Sc (.int i) (.int i) := fun _ _ => .int i
theorem Sc.bl (b : Bool) : Sc (.bl b) (.bool b) := fun _ _ => .bl b
theorem Sc.str (x : Str) : Sc (.str x) (.str x) := fun _ _ => .str x
theorem Sc.non : Sc .non .none := fun _ _ => .non

/-- a weaker reading -/
theorem PE.imp {X : Cx} {e : Expr} {t t' : TE} (h : PE X e t) (i : ∀ σ H Q, t' σ H Q → t σ H Q) : PE X e t' := ⟨fun pins s σ H Q I hq => h.run pins s σ H Q I (i σ H Q hq)⟩
theorem PT.imp {X : Cx} {e : Expr} {t t' : TT} (h : PT X e t) (i : ∀ σ H Q, t' σ H Q → t σ H Q) : PT X e t' := ⟨fun pins s σ H Q I hq => h.run pins s σ H Q I (i σ H Q hq)⟩
theorem PA.imp {X : Cx} {e : List Expr} {t t' : TA} (h : PA X e t) (i : ∀ σ H Q, t' σ H Q → t σ H Q) : PA X e t' := ⟨fun ps pins s σ H Q I hq => h.run ps pins s σ H Q I (i σ H Q hq)⟩
theorem PS.imp {X : Cx} {e : Stmt} {t t' : TS} (h : PS X e t) (i : ∀ D σ H, t' D σ H → t D σ H) : PS X e t' := ⟨fun pins s σ H D I hq => h.run pins s σ H D I (i D σ H hq)⟩
theorem PSs.imp {X : Cx} {e : List Stmt} {t t' : TS} (h : PSs X e t) (i : ∀ D σ H, t' D σ H → t D σ H) : PSs X e t' := ⟨fun pins s σ H D I hq => h.run pins s σ H D I (i D σ H hq)⟩

theorem Rep.owt {B : Bs} {ρ : DEnv} {σ : L2.St} {H : Hp} (R : Rep B ρ σ H) : ∀ a, OW B ρ a → ∃ o, H a = some o := fun a h => let ⟨o, e, _⟩ := R.ow h; ⟨o, e⟩
section
variable {X : Cx} {a b c e : Expr} {ta tb tc : DT} {pos : Pos}
/-! ### names and constants -/
def dN (i : Nat) : DT := fun ρ q => match ρ[i]? with
  | some (some _) => q (.nm i) ρ
  | _ => False
theorem do_nm {i : Nat} {x : Str} (h : PE X (.Name x pos) (tVar i)) : DO X (.Name x pos) (dN i) :=
  PE.imp h fun σ H Q ⟨B, ρ, q, R, t, k⟩ => by
    unfold dN at t
    split at t
    · rename_i c e
      obtain ⟨w, e1, e2⟩ := R.cel i c e
      exact ⟨w, e1, k _ _ _ _ t .refl R e1⟩
    · exact t.elim
def dC (d : PyData) : DT := fun ρ q => q (.vl d) ρ
theorem do_c {z : V} {d : PyData} (h : PE X e (tC z)) (s : Sc z d) : DO X e (dC d) :=
  PE.imp h fun σ H Q ⟨B, ρ, q, R, t, k⟩ => k _ _ _ _ t .refl R (s _ _)
theorem do_int {i : Int} {j} : DO X (.Constant (.int i) j pos) (dC (.int i)) := do_c pe_int (Sc.int i)
theorem do_strL {x : Str} {j} (l : List Nat) (h : x = mk l) : DO X (.Constant (.str x) j pos) (dC (S l)) := by subst h; exact do_c pe_str (Sc.str _)
theorem do_str {x : Str} {j} : DO X (.Constant (.str x) j pos) (dC (.str x)) := do_c pe_str (Sc.str x)
theorem do_bl {x : Bool} {j} : DO X (.Constant (.bool x) j pos) (dC (.bool x)) := do_c pe_bl (Sc.bl x)
theorem do_non {j} : DO X (.Constant .none j pos) (dC .none) := do_c pe_non Sc.non

/-! ### two operands, a value out that lies nowhere -/
abbrev D2 := PyData → PyData → (PyData → Prop) → Prop
/-- r asks no more than g -/
def Fit2 (r : R2) (g : D2) : Prop := ∀ (O : Addr → Prop) (H : Hp) (x y : V) (d e : PyData) (q : PyData → Prop) (Q : VK), (∀ a, O a → ∃ o, H a = some o) → RdB O H x d → RdB O H y e → g d e q →
  (∀ z dz H', q dz → Same H H' → Is O H' z dz → Q z H') → r x y H Q
def d2 (g : D2) (ta tb : DT) : DT := fun ρ q => ta ρ fun oa ρ1 => tb ρ1 fun ob ρ2 => oa.rd ρ2 fun d => ob.rd ρ2 fun e => g d e fun r => q (.vl r) ρ2
theorem up2 {r : R2} {g : D2} (f : Fit2 r g) {σ : L2.St} {H : Hp} {Q : VK} (h : upO (d2 g ta tb) σ H Q) : tOp r (upO ta) (upO tb) σ H Q := by
  obtain ⟨B, ρ, q, R, t, k⟩ := h
  refine ⟨B, ρ, _, R, t, fun oa ρ1 v1 H1 t1 m1 R1 i1 => ⟨B, ρ1, _, R1, t1, fun ob ρ2 v2 H2 t2 m2 R2' i2 => ?_⟩⟩
  obtain ⟨d, t3, r3⟩ := (i1.adv m2).rd R2' t2
  obtain ⟨e, t4, r4⟩ := i2.rd R2' t3
  exact f _ H2 v1 v2 d e _ _ R2'.owt r3 r4 t4 fun z dz H' hq hs hz => k _ _ _ _ hq ((m1.trans m2).trans (.same hs)) (R2'.same hs) hz
theorem do_op {op : Operator} {r : R2} {g : D2} (ho : OpR X (binaryOp op) r) (f : Fit2 r g) (ha : DO X a ta) (hb : DO X b tb) : DO X (.BinOp a op b pos) (d2 g ta tb) := PE.imp (pe_op ho ha hb) fun _ _ _ h => up2 f h
theorem do_cmp {op : CmpOp} {r : R2} {g : D2} (ho : OpR X (compareOp op) r) (f : Fit2 r g) (ha : DO X a ta) (hb : DO X b tb) (hm : behindInMarks op b = false) : DO X (.Compare a [op] [b] pos) (d2 g ta tb) := PE.imp (pe_cmpR ho ha hb hm) fun _ _ _ h => up2 f h
/-- one operand -/
abbrev D1 := PyData → (PyData → Prop) → Prop
def Fit1 (r : V → Hp → VK → Prop) (g : D1) : Prop := ∀ (O : Addr → Prop) (H : Hp) (x : V) (d : PyData) (q : PyData → Prop) (Q : VK), (∀ a, O a → ∃ o, H a = some o) → RdB O H x d → g d q →
  (∀ z dz H', q dz → Same H H' → Is O H' z dz → Q z H') → r x H Q
def d1 (g : D1) (ta : DT) : DT := fun ρ q => ta ρ fun oa ρ1 => oa.rd ρ1 fun d => g d fun r => q (.vl r) ρ1
theorem do_un {op : UnaryOp} {r : V → Hp → VK → Prop} {g : D1} (ho : UnR X (unaryOp op) r) (f : Fit1 r g) (ha : DO X a ta) : DO X (.UnaryOp op a pos) (d1 g ta) := PE.imp (pe_un ho ha) fun σ H Q ⟨B, ρ, q, R, t, k⟩ => by
  refine ⟨B, ρ, _, R, t, fun oa ρ1 v1 H1 t1 m1 R1 i1 => ?_⟩
  obtain ⟨d, t3, r3⟩ := i1.rd R1 t1
  exact f _ H1 v1 d _ _ R1.owt r3 t3 fun z dz H' hq hs hz => k _ _ _ _ hq (m1.trans (.same hs)) (R1.same hs) hz

/-- two ints -/
def gII (C : Int → Int → Prop) (g : Int → Int → PyData) : D2 := fun d e q => match d, e with
  | .int i, .int j => C i j ∧ q (g i j)
  | _, _ => False
theorem fit_rI {C : Int → Int → Prop} {g : Int → Int → Int} : Fit2 (rI C fun i j => .int (g i j)) (gII C fun i j => .int (g i j)) := fun O H x y d e q Q _ hx hy h k => by
  unfold gII at h
  split at h
  · rename_i i j
    exact ⟨i, j, hx.int, hy.int, h.1, k _ _ _ h.2 (Same.refl _) (.int _)⟩
  · exact h.elim
theorem fit_rI0 {g : Int → Int → Int} : Fit2 (rI0 fun i j => .int (g i j)) (gII (fun _ _ => True) fun i j => .int (g i j)) := fun O H x y d e q Q _ hx hy h k => by
  unfold gII at h
  split at h
  · rename_i i j
    exact ⟨i, j, hx.int, hy.int, k _ _ _ h.2 (Same.refl _) (.int _)⟩
  · exact h.elim
theorem fit_rB0 {g : Int → Int → Bool} : Fit2 (rI0 fun i j => .bl (g i j)) (gII (fun _ _ => True) fun i j => .bool (g i j)) := fun O H x y d e q Q _ hx hy h k => by
  unfold gII at h
  split at h
  · rename_i i j
    exact ⟨i, j, hx.int, hy.int, k _ _ _ h.2 (Same.refl _) (.bl _)⟩
  · exact h.elim
abbrev gSub : D2 := gII (fun _ _ => True) fun i j => .int (i - j)
/-- a factor below 2 ^ 63, or both together less than a million bits -/
def CMulA (i j : Int) : Prop := i.natAbs < 9223372036854775808 ∨ j.natAbs < 9223372036854775808 ∨ CMulW i j
theorem CMulA.ok {i j : Int} (h : CMulA i j) : IntMulOk i j := by
  rcases h with h | h | h
  · exact .of_left (intBits_le_64 (by omega) (by omega))
  · exact .of_right (intBits_le_64 (by omega) (by omega))
  · exact h.ok
abbrev gMul : D2 := gII CMulA fun i j => .int (i * j)
abbrev gDiv : D2 := gII CDivW fun i j => .int (i / j)
abbrev gMod : D2 := gII (fun _ j => 0 < j) fun i j => .int (i % j)
abbrev gLt : D2 := gII (fun _ _ => True) fun i j => .bool (decide (i < j))
abbrev gLe : D2 := gII (fun _ _ => True) fun i j => .bool (decide (i ≤ j))
abbrev gGt : D2 := gII (fun _ _ => True) fun i j => .bool (decide (j < i))
abbrev gGe : D2 := gII (fun _ _ => True) fun i j => .bool (decide (j ≤ i))
/-- + of ints or of texts -/
def gAdd : D2 := fun d e q => match d, e with
  | .int i, .int j => q (.int (i + j))
  | .str x, .str y => (L x).length + (L y).length ≤ 16777216 ∧ q (S (L x ++ L y))
  | _, _ => False
theorem op_addIS : OpR X (binaryOp .Add) (fun x y H Q => (rI0 (fun i j => .int (i + j)) x y H Q) ∨ (∃ i j, x = .str i ∧ y = .str j ∧ i.length + j.length ≤ sizeLine ∧ Q (.str (i ++ j)) H)) := OpR.or op_add op_add_str
theorem fit_add : Fit2 (fun x y H Q => (rI0 (fun i j => V.int (i + j)) x y H Q) ∨ (∃ i j, x = .str i ∧ y = .str j ∧ i.length + j.length ≤ sizeLine ∧ Q (.str (i ++ j)) H)) gAdd := fun O H x y d e q Q _ hx hy h k => by
  unfold gAdd at h
  split at h
  · rename_i i j
    exact .inl ⟨i, j, hx.int, hy.int, k _ _ _ h (Same.refl _) (.int _)⟩
  · rename_i i j
    refine .inr ⟨i, j, hx.str, hy.str, ?_, k _ _ _ h.2 (Same.refl _) ?_⟩
    · rw [sizeLine_eq, ← L_len, ← L_len]
      exact h.1
    · rw [← L_app]
      exact .str _
  · exact h.elim
theorem do_add (ha : DO X a ta) (hb : DO X b tb) : DO X (.BinOp a .Add b pos) (d2 gAdd ta tb) := do_op op_addIS fit_add ha hb
theorem do_sub (ha : DO X a ta) (hb : DO X b tb) : DO X (.BinOp a .Sub b pos) (d2 (gII (fun _ _ => True) fun i j => .int (i - j)) ta tb) := do_op op_sub fit_rI0 ha hb
theorem op_mulA {X : Cx} : OpR X (binaryOp .Mult) (rI CMulA fun i j => .int (i * j)) := opI fun _ _ _ _ _ _ _ hc q => mul_int q hc.ok
theorem do_mul (ha : DO X a ta) (hb : DO X b tb) : DO X (.BinOp a .Mult b pos) (d2 (gII CMulA fun i j => .int (i * j)) ta tb) := do_op op_mulA fit_rI ha hb
theorem do_fdiv (ha : DO X a ta) (hb : DO X b tb) : DO X (.BinOp a .FloorDiv b pos) (d2 (gII CDivW fun i j => .int (i / j)) ta tb) := do_op op_fdivW fit_rI ha hb
theorem do_mod (ha : DO X a ta) (hb : DO X b tb) : DO X (.BinOp a .Mod b pos) (d2 (gII (fun _ j => 0 < j) fun i j => .int (i % j)) ta tb) := do_op op_mod fit_rI ha hb
theorem do_lt (ha : DO X a ta) (hb : DO X b tb) : DO X (.Compare a [.Lt] [b] pos) (d2 (gII (fun _ _ => True) fun i j => .bool (decide (i < j))) ta tb) := do_cmp op_lt fit_rB0 ha hb (nomark _)
theorem do_le (ha : DO X a ta) (hb : DO X b tb) : DO X (.Compare a [.LtE] [b] pos) (d2 (gII (fun _ _ => True) fun i j => .bool (decide (i ≤ j))) ta tb) := do_cmp op_le fit_rB0 ha hb (nomark _)
theorem do_gt (ha : DO X a ta) (hb : DO X b tb) : DO X (.Compare a [.Gt] [b] pos) (d2 (gII (fun _ _ => True) fun i j => .bool (decide (j < i))) ta tb) := do_cmp op_gt fit_rB0 ha hb (nomark _)
theorem do_ge (ha : DO X a ta) (hb : DO X b tb) : DO X (.Compare a [.GtE] [b] pos) (d2 (gII (fun _ _ => True) fun i j => .bool (decide (j ≤ i))) ta tb) := do_cmp op_ge fit_rB0 ha hb (nomark _)
def gNeg : D1 := fun d q => match d with
  | .int i => q (.int (-i))
  | _ => False
theorem do_neg (ha : DO X a ta) : DO X (.UnaryOp .USub a pos) (d1 gNeg ta) := do_un un_neg (fun O H x d q Q _ hx h k => by
  unfold gNeg at h
  split at h
  · rename_i i
    exact ⟨i, hx.int, k _ _ _ h (Same.refl _) (.int _)⟩
  · exact h.elim) ha
/-- == and != of data at any depth, is None -/
def Fit2X (r : R2) (g : D2) : Prop := ∀ (H : Hp) (x y : V) (d e : PyData) (q : PyData → Prop) (Q : VK), RdX H x d → RdX H y e → g d e q → (∀ z dz, q dz → Sc z dz → Q z H) → r x y H Q
def d2x (g : D2) (ta tb : DT) : DT := fun ρ q => ta ρ fun oa ρ1 => tb ρ1 fun ob ρ2 => oa.rdx ρ2 fun d => ob.rdx ρ2 fun e => g d e fun r => q (.vl r) ρ2
theorem up2x {r : R2} {g : D2} (f : Fit2X r g) {σ : L2.St} {H : Hp} {Q : VK} (h : upO (d2x g ta tb) σ H Q) : tOp r (upO ta) (upO tb) σ H Q := by
  obtain ⟨B, ρ, q, R, t, k⟩ := h
  refine ⟨B, ρ, _, R, t, fun oa ρ1 v1 H1 t1 m1 R1 i1 => ⟨B, ρ1, _, R1, t1, fun ob ρ2 v2 H2 t2 m2 R2' i2 => ?_⟩⟩
  obtain ⟨d, t3, r3⟩ := (i1.adv m2).rdx R2' t2
  obtain ⟨e, t4, r4⟩ := i2.rdx R2' t3
  exact f H2 v1 v2 d e _ _ r3 r4 t4 fun z dz hq hz => k _ _ _ _ hq (m1.trans m2) R2' (hz _ _)
theorem do_cmpx {op : CmpOp} {r : R2} {g : D2} (ho : OpR X (compareOp op) r) (f : Fit2X r g) (ha : DO X a ta) (hb : DO X b tb) (hm : behindInMarks op b = false) : DO X (.Compare a [op] [b] pos) (d2x g ta tb) := PE.imp (pe_cmpR ho ha hb hm) fun _ _ _ h => up2x f h
theorem RdX.dp {K : PySem.W.Frag} {H : Hp} : ∀ {v : V} {d : PyData}, d.canLay0 = true → RdX H v d → Dp K H v d := by
  intro v d c ⟨O, h⟩
  revert c
  induction h using Is.rec (motive_2 := fun xs ds _ => PyData.canLayAll0 ds = true → DpAll K H xs ds) (motive_3 := fun xs ds _ => True) (motive_4 := fun xs ds _ => True) with
  | non => exact fun _ => .non
  | bl b => exact fun _ => .bl b
  | int i => exact fun _ => .int i
  | str x => exact fun _ => .str x
  | lst n r _ ih => exact fun c => .lst (.inl (.inl r)) (ih c)
  | tup r _ ih => exact fun c => .tup (.inl (.inl r)) (ih c)
  | dK n r _ ih => exact fun c => nomatch c
  | dT n r _ ih => exact fun c => nomatch c
  | nil => first | exact DpAll.nil | exact fun _ => DpAll.nil
  | cons _ _ h1 h2 =>
    rename_i f
    simp only [PyData.canLayAll0, Bool.and_eq_true] at f
    exact .cons (h1 f.1) (h2 f.2)
  | nilK => trivial
  | consK _ _ _ _ => trivial
  | nilT => trivial
  | consT _ _ _ _ => trivial
def gEq (f : Bool → Bool) : D2 := fun d e q => SeqAt.shaped d = true ∧ SeqAt.shaped e = true ∧ q (.bool (f (PyData.eqv d e)))
theorem fit_eq {K : PySem.W.Frag} : Fit2X (rEqD K) (gEq id) := fun H x y d e q Q hx hy ⟨h1, h2, h3⟩ k => ⟨d, e, hx.dp (SeqAt.canLay_of_shaped h1), hy.dp (SeqAt.canLay_of_shaped h2), h1, h2, k _ _ h3 (Sc.bl _)⟩
theorem fit_ne {K : PySem.W.Frag} : Fit2X (rNeD K) (gEq (!·)) := fun H x y d e q Q hx hy ⟨h1, h2, h3⟩ k => ⟨d, e, hx.dp (SeqAt.canLay_of_shaped h1), hy.dp (SeqAt.canLay_of_shaped h2), h1, h2, k _ _ h3 (Sc.bl _)⟩
theorem do_eq (hu : X.A.units + 64 < cLine) (ha : DO X a ta) (hb : DO X b tb) : DO X (.Compare a [.Eq] [b] pos) (d2x (gEq id) ta tb) := do_cmpx (op_eqD hu) fit_eq ha hb (nomark _)
theorem do_ne (hu : X.A.units + 64 < cLine) (ha : DO X a ta) (hb : DO X b tb) : DO X (.Compare a [.NotEq] [b] pos) (d2x (gEq (!·)) ta tb) := do_cmpx (op_neD hu) fit_ne ha hb (nomark _)
/-- == and != of two texts -/
def gEqS (f : Bool → Bool) : D2 := fun d e q => match d, e with
  | .str x, .str y => q (.bool (f (decide (x = y))))
  | _, _ => False
theorem decV {x y : Str} : decide (V.str x = V.str y) = decide (x = y) := decide_eq_decide.mpr ⟨fun h => by injection h, fun h => by rw [h]⟩
theorem fit_eqS : Fit2 rEq (gEqS id) := fun O H x y d e q Q _ hx hy h k => by
  unfold gEqS at h
  split at h
  · refine ⟨by rw [hx.str, hy.str]; rfl, ?_⟩
    rw [hx.str, hy.str, decV]
    exact k _ _ _ h (Same.refl _) (.bl _)
  · exact h.elim
theorem fit_neS : Fit2 rNe (gEqS (!·)) := fun O H x y d e q Q _ hx hy h k => by
  unfold gEqS at h
  split at h
  · refine ⟨by rw [hx.str, hy.str]; rfl, ?_⟩
    rw [hx.str, hy.str, decV]
    exact k _ _ _ h (Same.refl _) (.bl _)
  · exact h.elim
theorem do_eqS (ha : DO X a ta) (hb : DO X b tb) : DO X (.Compare a [.Eq] [b] pos) (d2 (gEqS id) ta tb) := do_cmp op_eq fit_eqS ha hb (nomark _)
theorem do_neS (ha : DO X a ta) (hb : DO X b tb) : DO X (.Compare a [.NotEq] [b] pos) (d2 (gEqS (!·)) ta tb) := do_cmp op_ne fit_neS ha hb (nomark _)
/-- is None -/
def isNone : PyData → Bool
  | .none => true
  | _ => false
theorem RdX.isNone {H : Hp} {v : V} {d : PyData} (h : RdX H v d) : decide (v = .non) = isNone d := by
  obtain ⟨O, h⟩ := h
  cases h <;> rfl
def gIs (f : Bool → Bool) : D2 := fun d e q => isNone e = true ∧ q (.bool (f (isNone d)))
theorem fit_is : Fit2X (fun x y H Q => y = .non ∧ Q (.bl (decide (x = .non))) H) (gIs id) := fun H x y d e q Q hx hy h k => by
  refine ⟨of_decide_eq_true (hy.isNone.trans h.1), ?_⟩
  rw [hx.isNone]
  exact k _ _ h.2 (Sc.bl _)
theorem fit_isnot : Fit2X (fun x y H Q => y = .non ∧ Q (.bl (!decide (x = .non))) H) (gIs (!·)) := fun H x y d e q Q hx hy h k => by
  refine ⟨of_decide_eq_true (hy.isNone.trans h.1), ?_⟩
  rw [hx.isNone]
  exact k _ _ h.2 (Sc.bl _)
theorem do_is (ha : DO X a ta) (hb : DO X b tb) : DO X (.Compare a [.Is] [b] pos) (d2x (gIs id) ta tb) := do_cmpx op_isN fit_is ha hb (nomark _)
theorem do_isnot (ha : DO X a ta) (hb : DO X b tb) : DO X (.Compare a [.IsNot] [b] pos) (d2x (gIs (!·)) ta tb) := do_cmpx op_notN fit_isnot ha hb (nomark _)

/-! ### tests -/
abbrev DTT := DEnv → (Bool → DEnv → Prop) → Prop
def upT (t : DTT) : TT := fun σ H Q => ∃ B ρ q, Rep B ρ σ H ∧ t ρ q ∧ ∀ b ρ' H', q b ρ' → Adv (OW B ρ) (OW B ρ') H H' → Rep B ρ' σ H' → Q b H'
abbrev DP (X : Cx) (e : Expr) (t : DTT) : Prop := PT X e (upT t)
/-- a value that is True or False, as a test -/
def dB (t : DT) : DTT := fun ρ q => t ρ fun o ρ' => o.rd ρ' fun d => match d with
  | .bool b => q b ρ'
  | _ => False
theorem upB {t : DT} {σ : L2.St} {H : Hp} {Q : Bool → Hp → Prop} (h : upT (dB t) σ H Q) : upO t σ H fun x H1 => ∃ c, x = .bl c ∧ Q c H1 := by
  obtain ⟨B, ρ, q, R, t, k⟩ := h
  refine ⟨B, ρ, _, R, t, fun oa ρ1 v1 H1 t1 m1 R1 i1 => ?_⟩
  obtain ⟨d, t3, r3⟩ := i1.rd R1 t1
  split at t3
  · rename_i b
    exact ⟨b, r3.bl, k _ _ _ t3 m1 R1⟩
  · exact t3.elim
theorem dp_val (h : DO X e ta) (he : ∀ whole, isTrue e X.env whole = (do let v ← whole; standAt e.pos; holding [v] (truthy v)) := by intro _; rfl) : DP X e (dB ta) := PT.imp (pt_val h he) fun _ _ _ h => upB h
theorem dp_cmp {op : CmpOp} {r : R2} {g : D2} (ho : OpR X (compareOp op) r) (f : Fit2 r g) (ha : DO X a ta) (hb : DO X b tb) (hm : behindInMarks op b = false) : DP X (.Compare a [op] [b] pos) (dB (d2 g ta tb)) := PT.imp (pt_cmpR ho ha hb hm) fun _ _ _ h => by
  have h' := upB h
  exact up2 f h'
theorem dp_lt (ha : DO X a ta) (hb : DO X b tb) : DP X (.Compare a [.Lt] [b] pos) (dB (d2 (gII (fun _ _ => True) fun i j => .bool (decide (i < j))) ta tb)) := dp_cmp op_lt fit_rB0 ha hb (nomark _)
theorem dp_le (ha : DO X a ta) (hb : DO X b tb) : DP X (.Compare a [.LtE] [b] pos) (dB (d2 (gII (fun _ _ => True) fun i j => .bool (decide (i ≤ j))) ta tb)) := dp_cmp op_le fit_rB0 ha hb (nomark _)
theorem dp_gt (ha : DO X a ta) (hb : DO X b tb) : DP X (.Compare a [.Gt] [b] pos) (dB (d2 (gII (fun _ _ => True) fun i j => .bool (decide (j < i))) ta tb)) := dp_cmp op_gt fit_rB0 ha hb (nomark _)
theorem dp_ge (ha : DO X a ta) (hb : DO X b tb) : DP X (.Compare a [.GtE] [b] pos) (dB (d2 (gII (fun _ _ => True) fun i j => .bool (decide (j ≤ i))) ta tb)) := dp_cmp op_ge fit_rB0 ha hb (nomark _)
theorem dp_cmpx {op : CmpOp} {r : R2} {g : D2} (ho : OpR X (compareOp op) r) (f : Fit2X r g) (ha : DO X a ta) (hb : DO X b tb) (hm : behindInMarks op b = false) : DP X (.Compare a [op] [b] pos) (dB (d2x g ta tb)) := PT.imp (pt_cmpR ho ha hb hm) fun _ _ _ h => by
  have h' := upB h
  exact up2x f h'
theorem dp_eq (hu : X.A.units + 64 < cLine) (ha : DO X a ta) (hb : DO X b tb) : DP X (.Compare a [.Eq] [b] pos) (dB (d2x (gEq id) ta tb)) := dp_cmpx (op_eqD hu) fit_eq ha hb (nomark _)
theorem dp_ne (hu : X.A.units + 64 < cLine) (ha : DO X a ta) (hb : DO X b tb) : DP X (.Compare a [.NotEq] [b] pos) (dB (d2x (gEq (!·)) ta tb)) := dp_cmpx (op_neD hu) fit_ne ha hb (nomark _)
theorem dp_eqS (ha : DO X a ta) (hb : DO X b tb) : DP X (.Compare a [.Eq] [b] pos) (dB (d2 (gEqS id) ta tb)) := dp_cmp op_eq fit_eqS ha hb (nomark _)
theorem dp_neS (ha : DO X a ta) (hb : DO X b tb) : DP X (.Compare a [.NotEq] [b] pos) (dB (d2 (gEqS (!·)) ta tb)) := dp_cmp op_ne fit_neS ha hb (nomark _)
theorem dp_is (ha : DO X a ta) (hb : DO X b tb) : DP X (.Compare a [.Is] [b] pos) (dB (d2x (gIs id) ta tb)) := dp_cmpx op_isN fit_is ha hb (nomark _)
theorem dp_isnot (ha : DO X a ta) (hb : DO X b tb) : DP X (.Compare a [.IsNot] [b] pos) (dB (d2x (gIs (!·)) ta tb)) := dp_cmpx op_notN fit_isnot ha hb (nomark _)
/-! and, or, not as tests -/
variable {sa sb : DTT} {rest : List Expr}
def dNot (t : DTT) : DTT := fun ρ q => t ρ fun b ρ' => q (!b) ρ'
def dAnd (t u : DTT) : DTT := fun ρ q => t ρ fun b ρ' => if b = true then u ρ' q else q false ρ'
def dOr (t u : DTT) : DTT := fun ρ q => t ρ fun b ρ' => if b = true then q true ρ' else u ρ' q
theorem dp_not (ha : DP X a sa) : DP X (.UnaryOp .Not a pos) (dNot sa) := PT.imp (pt_not ha) fun σ H Q ⟨B, ρ, q, R, t, k⟩ => ⟨B, ρ, _, R, t, fun b ρ1 H1 t1 m1 R1 => k _ _ _ t1 m1 R1⟩
theorem upAnd {t u : DTT} {σ : L2.St} {H : Hp} {Q : Bool → Hp → Prop} (h : upT (dAnd t u) σ H Q) : tAnd (upT t) (upT u) σ H Q := by
  obtain ⟨B, ρ, q, R, t, k⟩ := h
  refine ⟨B, ρ, _, R, t, fun b ρ1 H1 t1 m1 R1 => ?_⟩
  cases b with
  | true =>
    rw [if_pos rfl] at t1 ⊢
    exact ⟨B, ρ1, q, R1, t1, fun b ρ2 H2 t2 m2 R2 => k _ _ _ t2 (m1.trans m2) R2⟩
  | false =>
    rw [if_neg Bool.false_ne_true] at t1 ⊢
    exact k _ _ _ t1 m1 R1
theorem upOr {t u : DTT} {σ : L2.St} {H : Hp} {Q : Bool → Hp → Prop} (h : upT (dOr t u) σ H Q) : tOr (upT t) (upT u) σ H Q := by
  obtain ⟨B, ρ, q, R, t, k⟩ := h
  refine ⟨B, ρ, _, R, t, fun b ρ1 H1 t1 m1 R1 => ?_⟩
  cases b with
  | false =>
    rw [if_neg Bool.false_ne_true] at t1 ⊢
    exact ⟨B, ρ1, q, R1, t1, fun b ρ2 H2 t2 m2 R2 => k _ _ _ t2 (m1.trans m2) R2⟩
  | true =>
    rw [if_pos rfl] at t1 ⊢
    exact k _ _ _ t1 m1 R1
abbrev DW (X : Cx) (e : Expr) (t : DTT) : Prop := PW X e (upT t)
theorem PW.imp {X : Cx} {e : Expr} {t t' : TT} (h : PW X e t) (i : ∀ σ H Q, t' σ H Q → t σ H Q) : PW X e t' := ⟨fun wh pins s σ H Q I hq => h.run wh pins s σ H Q I (i σ H Q hq)⟩
theorem dw_and1 (ha : DP X a sa) : DW X (.BoolOp .And [a] pos) sa := pw_and1 ha
theorem dw_or1 (ha : DP X a sa) : DW X (.BoolOp .Or [a] pos) sa := pw_or1 ha
theorem dw_and (ha : DP X a sa) (hb : DW X (.BoolOp .And (b :: rest) pos) sb) : DW X (.BoolOp .And (a :: b :: rest) pos) (dAnd sa sb) := PW.imp (pw_and ha hb) fun _ _ _ h => upAnd h
theorem dw_or (ha : DP X a sa) (hb : DW X (.BoolOp .Or (b :: rest) pos) sb) : DW X (.BoolOp .Or (a :: b :: rest) pos) (dOr sa sb) := PW.imp (pw_or ha hb) fun _ _ _ h => upOr h
theorem dp_w (h : DW X e sa) : DP X e sa := h.pt
/-- a if t else b -/
def dIf (t : DTT) (ta tb : DT) : DT := fun ρ q => t ρ fun b ρ' => if b = true then ta ρ' q else tb ρ' q
theorem do_if (hc : DP X c sa) (ha : DO X a ta) (hb : DO X b tb) : DO X (.IfExp c a b pos) (dIf sa ta tb) := PE.imp (pe_ifExp hc ha hb) fun σ H Q ⟨B, ρ, q, R, t, k⟩ => by
  refine ⟨B, ρ, _, R, t, fun b ρ1 H1 t1 m1 R1 => ?_⟩
  cases b with
  | true =>
    rw [if_pos rfl] at t1 ⊢
    exact ⟨B, ρ1, q, R1, t1, fun o ρ2 v H2 t2 m2 R2 i2 => k _ _ _ _ t2 (m1.trans m2) R2 i2⟩
  | false =>
    rw [if_neg Bool.false_ne_true] at t1 ⊢
    exact ⟨B, ρ1, q, R1, t1, fun o ρ2 v H2 t2 m2 R2 i2 => k _ _ _ _ t2 (m1.trans m2) R2 i2⟩
/-- and, or as values: all but the last True or False -/
def dAndV (ta tb : DT) : DT := fun ρ q => ta ρ fun o ρ' => o.rd ρ' fun d => match d with
  | .bool b => if b = true then tb ρ' q else q (.vl (.bool false)) ρ'
  | _ => False
def dOrV (ta tb : DT) : DT := fun ρ q => ta ρ fun o ρ' => o.rd ρ' fun d => match d with
  | .bool b => if b = true then q (.vl (.bool true)) ρ' else tb ρ' q
  | _ => False
theorem do_one {op} (ha : DO X a ta) : DO X (.BoolOp op [a] pos) ta := pe_one ha
theorem do_and (ha : DO X a ta) (hb : DO X (.BoolOp .And (b :: rest) pos) tb) : DO X (.BoolOp .And (a :: b :: rest) pos) (dAndV ta tb) := PE.imp (pe_and ha hb) fun σ H Q ⟨B, ρ, q, R, t, k⟩ => by
  refine ⟨B, ρ, _, R, t, fun o ρ1 v H1 t1 m1 R1 i1 => ?_⟩
  obtain ⟨d, t3, r3⟩ := i1.rd R1 t1
  split at t3
  · rename_i b
    refine ⟨b, r3.bl, ?_⟩
    cases b with
    | true =>
      rw [if_pos rfl] at t3 ⊢
      exact ⟨B, ρ1, q, R1, t3, fun o ρ2 v H2 t2 m2 R2 i2 => k _ _ _ _ t2 (m1.trans m2) R2 i2⟩
    | false =>
      rw [if_neg Bool.false_ne_true] at t3 ⊢
      exact k _ _ _ _ t3 m1 R1 (.bl false)
  · exact t3.elim
theorem do_or (ha : DO X a ta) (hb : DO X (.BoolOp .Or (b :: rest) pos) tb) : DO X (.BoolOp .Or (a :: b :: rest) pos) (dOrV ta tb) := PE.imp (pe_or ha hb) fun σ H Q ⟨B, ρ, q, R, t, k⟩ => by
  refine ⟨B, ρ, _, R, t, fun o ρ1 v H1 t1 m1 R1 i1 => ?_⟩
  obtain ⟨d, t3, r3⟩ := i1.rd R1 t1
  split at t3
  · rename_i b
    refine ⟨b, r3.bl, ?_⟩
    cases b with
    | false =>
      rw [if_neg Bool.false_ne_true] at t3 ⊢
      exact ⟨B, ρ1, q, R1, t3, fun o ρ2 v H2 t2 m2 R2 i2 => k _ _ _ _ t2 (m1.trans m2) R2 i2⟩
    | true =>
      rw [if_pos rfl] at t3 ⊢
      exact k _ _ _ _ t3 m1 R1 (.bl true)
  · exact t3.elim
/-- not, as a value -/
def gNot : D1 := fun d q => match d with
  | .bool b => q (.bool (!b))
  | _ => False
theorem do_not (ha : DO X a ta) : DO X (.UnaryOp .Not a pos) (d1 gNot ta) := PE.imp (pe_not ha) fun σ H Q ⟨B, ρ, q, R, t, k⟩ => by
  refine ⟨B, ρ, _, R, t, fun o ρ1 v H1 t1 m1 R1 i1 => ?_⟩
  obtain ⟨d, t3, r3⟩ := i1.rd R1 t1
  unfold gNot at t3
  split at t3
  · rename_i b
    exact ⟨b, r3.bl, k _ _ _ _ t3 m1 R1 (.bl _)⟩
  · exact t3.elim
/-- a < b < c -/
def dCh (g h : D2) (ta tb tc : DT) : DT := fun ρ q => ta ρ fun oa ρ1 => tb ρ1 fun ob ρ2 => oa.rd ρ2 fun d => ob.rd ρ2 fun e => g d e fun r => match r with
  | .bool b => if b = true then tc ρ2 (fun oc ρ3 => ob.rd ρ3 fun e' => oc.rd ρ3 fun f => h e' f fun r' => q (.vl r') ρ3) else q (.vl (.bool false)) ρ2
  | _ => False
theorem upCh {r r' : R2} {g g' : D2} (f : Fit2 r g) (f' : Fit2 r' g') {σ : L2.St} {H : Hp} {Q : VK} (h : upO (dCh g g' ta tb tc) σ H Q) : tChain r r' (upO ta) (upO tb) (upO tc) σ H Q := by
  obtain ⟨B, ρ, q, R, t, k⟩ := h
  refine ⟨B, ρ, _, R, t, fun oa ρ1 v1 H1 t1 m1 R1 i1 => ⟨B, ρ1, _, R1, t1, fun ob ρ2 v2 H2 t2 m2 R2' i2 => ?_⟩⟩
  obtain ⟨d, t3, r3⟩ := (i1.adv m2).rd R2' t2
  obtain ⟨e, t4, r4⟩ := i2.rd R2' t3
  refine f _ H2 v1 v2 d e _ _ R2'.owt r3 r4 t4 fun z dz H2' hq hs hz => ?_
  have R2'' := R2'.same hs
  have m12 := (m1.trans m2).trans (Adv.same hs)
  split at hq
  · rename_i b
    refine ⟨b, hz.bl', ?_⟩
    cases b with
    | false =>
      rw [if_neg Bool.false_ne_true] at hq ⊢
      exact k _ _ _ _ hq m12 R2'' (.bl false)
    | true =>
      rw [if_pos rfl] at hq ⊢
      refine ⟨B, ρ2, _, R2'', hq, fun oc ρ3 v3 H3 t5 m3 R3 i3 => ?_⟩
      obtain ⟨e', t6, r6⟩ := ((i2.adv (Adv.same hs)).adv m3).rd R3 t5
      obtain ⟨ff, t7, r7⟩ := i3.rd R3 t6
      exact f' _ H3 v2 v3 e' ff _ _ R3.owt r6 r7 t7 fun z dz H' hq hs3 hz => k _ _ _ _ hq ((m12.trans m3).trans (.same hs3)) (R3.same hs3) hz
  · exact hq.elim
theorem do_chain {op op' : CmpOp} {r r' : R2} {g g' : D2} (ho : OpR X (compareOp op) r) (ho' : OpR X (compareOp op') r') (f : Fit2 r g) (f' : Fit2 r' g') (ha : DO X a ta) (hb : DO X b tb) (hc : DO X c tc)
    (hm : lastMarks [op, op'] [b, c] = false := by with_unfolding_all rfl) : DO X (.Compare a [op, op'] [b, c] pos) (dCh g g' ta tb tc) := PE.imp (pe_chain ho ho' ha hb hc hm) fun _ _ _ h => upCh f f' h
theorem dp_chain {op op' : CmpOp} {r r' : R2} {g g' : D2} (ho : OpR X (compareOp op) r) (ho' : OpR X (compareOp op') r') (f : Fit2 r g) (f' : Fit2 r' g') (ha : DO X a ta) (hb : DO X b tb) (hc : DO X c tc)
    (hm : lastMarks [op, op'] [b, c] = false := by with_unfolding_all rfl) : DP X (.Compare a [op, op'] [b, c] pos) (dB (dCh g g' ta tb tc)) := PT.imp (pt_chain ho ho' ha hb hc hm) fun _ _ _ h => upCh f f' (upB h)
end
end DL
namespace DL
open PySem PySem.Spec PyProof.Rows L2

/-! ### argument lists -/
abbrev DTA := DEnv → (List OV → DEnv → Prop) → Prop
abbrev OAll (B : Bs) (ρ : DEnv) (σ : L2.St) (H : Hp) : List V → List OV → Prop := Paired (OIs B ρ σ H)
def upA (t : DTA) : TA := fun σ H Q => ∃ B ρ q, Rep B ρ σ H ∧ t ρ q ∧ ∀ os ρ' vs H', q os ρ' → Adv (OW B ρ) (OW B ρ') H H' → Rep B ρ' σ H' → OAll B ρ' σ H' vs os → Q vs H'
abbrev DA (X : Cx) (es : List Expr) (t : DTA) : Prop := PA X es (upA t)
theorem OAll.adv {B : Bs} {ρ ρ' : DEnv} {σ : L2.St} {H H' : Hp} (m : Adv (OW B ρ) (OW B ρ') H H') : ∀ {vs : List V} {os : List OV}, OAll B ρ σ H vs os → OAll B ρ' σ H' vs os
  | _, _, .nil => .nil
  | _, _, .cons h t => .cons (h.adv m) (OAll.adv m t)
def rdAll : List OV → DEnv → (List PyData → Prop) → Prop
  | [], _, k => k []
  | o :: os, ρ, k => o.rd ρ fun d => rdAll os ρ fun ds => k (d :: ds)
def tkAll : List OV → DEnv → (List PyData → DEnv → Prop) → Prop
  | [], ρ, k => k [] ρ
  | o :: os, ρ, k => o.tk ρ fun d ρ' => tkAll os ρ' fun ds ρ'' => k (d :: ds) ρ''
abbrev RdAll (O : Addr → Prop) (H : Hp) : List V → List PyData → Prop := Paired (RdB O H)
theorem OAll.rd {B : Bs} {ρ : DEnv} {σ : L2.St} {H : Hp} (R : Rep B ρ σ H) : ∀ {vs : List V} {os : List OV} {k : List PyData → Prop}, OAll B ρ σ H vs os → rdAll os ρ k → ∃ ds, k ds ∧ RdAll (OW B ρ) H vs ds
  | _, _, _, .nil, h => ⟨[], h, .nil⟩
  | _, _, _, .cons i t, h => by
    obtain ⟨d, h1, r⟩ := i.rd R h
    obtain ⟨ds, h2, rs⟩ := OAll.rd R t h1
    exact ⟨d :: ds, h2, .cons r rs⟩
theorem OAll.tk {B : Bs} {σ : L2.St} {H : Hp} : ∀ {vs : List V} {os : List OV} {ρ : DEnv} {k : List PyData → DEnv → Prop}, Rep B ρ σ H → OAll B ρ σ H vs os → tkAll os ρ k →
    ∃ ds ρ', k ds ρ' ∧ IsAll (OW B ρ') H vs ds ∧ Rep B ρ' σ H ∧ Adv (OW B ρ) (OW B ρ') H H
  | _, _, ρ, _, R, .nil, h => ⟨[], ρ, h, .nil, R, .refl⟩
  | _, _, ρ, _, R, .cons i t, h => by
    obtain ⟨d, ρ1, h1, r, R1, m1⟩ := i.tk R h
    obtain ⟨ds, ρ2, h2, rs, R2, m2⟩ := OAll.tk R1 (OAll.adv m1 t) h1
    exact ⟨d :: ds, ρ2, h2, .cons (r.mono m2) rs, R2, m1.trans m2⟩
section
variable {X : Cx} {a b c e : Expr} {es : List Expr} {ta tb tc : DT} {t : DTA} {pos : Pos}
def dNil : DTA := fun ρ q => q [] ρ
def dCons (ta : DT) (tr : DTA) : DTA := fun ρ q => ta ρ fun o ρ1 => tr ρ1 fun os ρ2 => q (o :: os) ρ2
theorem da_nil : DA X [] dNil := PA.imp pa_nil fun σ H Q ⟨B, ρ, q, R, t, k⟩ => k _ _ _ _ t .refl R .nil
theorem da_cons (ha : DO X e ta) (hr : DA X es t) (hs : starEach (e :: es) X.env = (false, eval e X.env) :: starEach es X.env := by rfl) : DA X (e :: es) (dCons ta t) := PA.imp (pa_cons ha hr hs) fun σ H Q ⟨B, ρ, q, R, t, k⟩ => by
  refine ⟨B, ρ, _, R, t, fun o ρ1 v1 H1 t1 m1 R1 i1 => ⟨B, ρ1, _, R1, t1, fun os ρ2 vs H2 t2 m2 R2 i2 => ?_⟩⟩
  exact k _ _ _ _ t2 (m1.trans m2) R2 (.cons (i1.adv m2) i2)
/-- one expression -/
theorem upA1 {σ : L2.St} {H : Hp} {Q : V → Hp → Prop} (h : ∃ B ρ q, Rep B ρ σ H ∧ ta ρ q ∧ ∀ o ρ' v H', q o ρ' → Adv (OW B ρ) (OW B ρ') H H' → Rep B ρ' σ H' → OIs B ρ' σ H' v o → Q v H') : upO ta σ H Q := h

/-! ### displays -/
def dTup (t : DTA) : DT := fun ρ q => t ρ fun os ρ1 => tkAll os ρ1 fun ds ρ2 => ds.length ≤ 16777216 ∧ q (.vl (.tuple ds)) ρ2
theorem do_tup {x1} (h : DA X es t) : DO X (.Tuple es x1 pos) (dTup t) := PE.imp (pe_tup h) fun σ H Q ⟨B, ρ, q, R, t, k⟩ => by
  refine ⟨B, ρ, _, R, t, fun os ρ1 vs H1 t1 m1 R1 i1 => ?_⟩
  obtain ⟨ds, ρ2, ⟨hl, t2⟩, is, R2, m2⟩ := OAll.tk R1 i1 t1
  refine ⟨by rw [is.length, sizeLine_eq]; exact hl, fun p hp => ?_⟩
  have m3 : Adv (OW B ρ2) (OW B ρ2) H1 (upd H1 p (.tup vs)) := .new hp
  exact k _ _ _ _ t2 ((m1.trans m2).trans m3) (R2.same (same_new hp)) (.tup upd_same (is.mono m3))
/-- a list that is handed on at once -/
def dLst (t : DTA) : DT := fun ρ q => t ρ fun os ρ1 => tkAll os ρ1 fun ds ρ2 => ds.length ≤ 16777216 ∧ q (.vl (.list ds)) ρ2
theorem do_lst (h : DA X es t) : DO X (.List es pos) (dLst t) := PE.imp (pe_lst h) fun σ H Q ⟨B, ρ, q, R, t, k⟩ => by
  refine ⟨B, ρ, _, R, t, fun os ρ1 vs H1 t1 m1 R1 i1 => ?_⟩
  obtain ⟨ds, ρ2, ⟨hl, t2⟩, is, R2, m2⟩ := OAll.tk R1 i1 t1
  refine ⟨by rw [is.length, sizeLine_eq]; exact hl, fun p hp => ?_⟩
  have m3 : Adv (OW B ρ2) (OW B ρ2) H1 (upd H1 p (.lst vs)) := .new hp
  exact k _ _ _ _ t2 ((m1.trans m2).trans m3) (R2.same (same_new hp)) (.lst (R2.new hp) upd_same (is.mono m3))

/-! ### items -/
theorem atI_all {O : Addr → Prop} {H : Hp} {xs : List V} {ds : List PyData} (h : IsAll O H xs ds) {i : Int} {d : PyData} (e : atI ds i = some d) : ∃ v, atI xs i = some v ∧ Is O H v d := by
  unfold atI at e ⊢
  rw [h.length]
  cases q : ixN ds.length i with
  | none => rw [q] at e; cases e
  | some j =>
    rw [q] at e
    exact h.get e
def gIx : D2 := fun d e q => match e with
  | .int i => match d with
    | .list ds => ∃ r, atI ds i = some r ∧ q r
    | .tuple ds => ∃ r, atI ds i = some r ∧ q r
    | .str x => (L x).length ≤ 16777216 ∧ ∃ c, atI (L x) i = some c ∧ q (S [c])
    | _ => False
  | _ => False
theorem fit_ix {K : PySem.W.Frag} : Fit2 (rIx K) gIx := fun O H x y d e q Q _ hx hy h k => by
  unfold gIx at h
  split at h
  · rename_i i
    split at h
    · obtain ⟨r, h1, h2⟩ := h
      obtain ⟨a, xs, e1, e2, e3⟩ := hx.lst
      obtain ⟨v, f1, f2⟩ := atI_all e3 h1
      exact .inl ⟨a, xs, i, v, e1, hy.int, SqL.of e2, f1, k _ _ _ h2 (Same.refl _) f2⟩
    · obtain ⟨r, h1, h2⟩ := h
      obtain ⟨a, xs, e1, e2, e3⟩ := hx.tup
      obtain ⟨v, f1, f2⟩ := atI_all e3 h1
      exact .inr (.inl ⟨a, xs, i, v, e1, hy.int, SqT.of e2, f1, k _ _ _ h2 (Same.refl _) f2⟩)
    · obtain ⟨hl, c, h1, h2⟩ := h
      exact .inr (.inr ⟨_, i, c, hx.str, hy.int, by rw [sizeLine_eq, ← L_len]; exact hl, h1, k _ _ _ h2 (Same.refl _) (.str _)⟩)
    · exact h.elim
  · exact h.elim
theorem do_ix (ha : DO X a ta) (hb : DO X b tb) (hs : PlainIx b) : DO X (.Subscript a b pos) (d2 gIx ta tb) := PE.imp (pe_ix ix_seq ha hb hs) fun _ _ _ h => up2 fit_ix h

/-! ### slices -/
abbrev DTO := DEnv → (Option Int → DEnv → Prop) → Prop
def upP (t : DTO) : TO := fun σ H Q => ∃ B ρ q, Rep B ρ σ H ∧ t ρ q ∧ ∀ o ρ' H', q o ρ' → Adv (OW B ρ) (OW B ρ') H H' → Rep B ρ' σ H' → Q o H'
theorem PO.imp {e : Option Expr} {t t' : TO} (h : PO X e t) (i : ∀ σ H Q, t' σ H Q → t σ H Q) : PO X e t' := ⟨fun pins s σ H Q I hq => h.run pins s σ H Q I (i σ H Q hq)⟩
def dNoP : DTO := fun ρ q => q none ρ
def dPt (t : DT) : DTO := fun ρ q => t ρ fun o ρ' => o.rd ρ' fun d => match d with
  | .int i => q (some i) ρ'
  | _ => False
theorem dpo_none : PO X none (upP dNoP) := PO.imp po_none fun σ H Q ⟨B, ρ, q, R, t, k⟩ => k _ _ _ t .refl R
theorem dpo_some (h : DO X e ta) : PO X (some e) (upP (dPt ta)) := PO.imp (po_some h) fun σ H Q ⟨B, ρ, q, R, t, k⟩ => by
  refine ⟨B, ρ, _, R, t, fun oa ρ1 v1 H1 t1 m1 R1 i1 => ?_⟩
  obtain ⟨d, t3, r3⟩ := i1.rd R1 t1
  split at t3
  · rename_i i
    exact ⟨i, r3.int, k _ _ _ t3 m1 R1⟩
  · exact t3.elim
/-- l[lo:hi] -/
def cutD {α : Type} (xs : List α) (lo hi : Option Int) : List α := (xs.drop (HT.sIx xs.length 0 lo)).take (HT.sIx xs.length xs.length hi - HT.sIx xs.length 0 lo)
def gSl (lo hi : Option Int) : D1 := fun d q => match d with
  | .str x => (L x).length ≤ 16777216 ∧ q (S (cutD (L x) lo hi))
  | .list ds => q (.list (cutD ds lo hi))
  | .tuple ds => q (.tuple (cutD ds lo hi))
  | _ => False
theorem cut_all {α : Type} {xs : List α} {lo hi : Option Int} (h : HT.sIx xs.length 0 lo = 0 ∧ HT.sIx xs.length xs.length hi = xs.length) : cutD xs lo hi = xs := by
  unfold cutD
  rw [h.1, h.2]
  simp
def dSl (ta : DT) (tl th : DTO) : DT := fun ρ q => ta ρ fun oa ρ1 => tl ρ1 fun lo ρ2 => th ρ2 fun hi ρ3 => oa.rd ρ3 fun d => gSl lo hi d fun r => q (.vl r) ρ3
theorem cut_is {O : Addr → Prop} {H : Hp} {xs : List V} {ds : List PyData} (h : IsAll O H xs ds) (lo hi : Option Int) : IsAll O H (cutV xs lo hi) (cutD ds lo hi) := by
  unfold cutV cutD
  rw [h.length]
  exact (h.drop _).take _
theorem do_sl {lo hi : Option Expr} {tl th : DTO} {p2 : Pos} (ha : DO X a ta) (hl : PO X lo (upP tl)) (hh : PO X hi (upP th)) : DO X (.Subscript a (.Slice lo hi none p2) pos) (dSl ta tl th) := PE.imp (pe_slice (sl_str.or (sl_list.or sl_tupA)) ha hl hh) fun σ H Q ⟨B, ρ, q, R, t, k⟩ => by
  refine ⟨B, ρ, _, R, t, fun oa ρ1 v1 H1 t1 m1 R1 i1 => ⟨B, ρ1, _, R1, t1, fun lo ρ2 H2 t2 m2 R2 => ⟨B, ρ2, _, R2, t2, fun hi ρ3 H3 t3 m3 R3 => ?_⟩⟩⟩
  obtain ⟨d, t4, r4⟩ := ((i1.adv m2).adv m3).rd R3 t3
  have m := (m1.trans m2).trans m3
  unfold gSl at t4
  split at t4
  · rename_i x
    refine .inl ⟨_, r4.str, by rw [sizeLine_eq, ← L_len]; exact t4.1, ?_⟩
    have e : mk (cutD (L x) lo hi) = cutS x lo hi := rfl
    rw [← e]
    exact k _ _ _ _ t4.2 m R3 (Is.str _)
  · obtain ⟨a', xs, e1, e2, e3⟩ := r4.lst
    refine .inr (.inl ⟨a', xs, e1, SqL.of e2, fun p hp => ?_⟩)
    have m4 : Adv (OW B ρ3) (OW B ρ3) H3 (upd H3 p (.lst (cutV xs lo hi))) := .new hp
    exact k _ _ _ _ t4 (m.trans m4) (R3.same (same_new hp)) (.lst (R3.new hp) upd_same ((cut_is e3 lo hi).mono m4))
  · obtain ⟨a', xs, e1, e2, e3⟩ := r4.tup
    rename_i ds
    refine .inr (.inr ⟨a', xs, e1, SqT.of e2, fun hw => ?_, fun hw p hp => ?_⟩)
    · rw [cut_all (xs := ds) (by rw [← e3.length]; exact hw)] at t4
      exact k _ _ _ _ t4 m R3 (.tup e2 e3)
    · have m4 : Adv (OW B ρ3) (OW B ρ3) H3 (upd H3 p (.tup (cutV xs lo hi))) := .new hp
      exact k _ _ _ _ t4 (m.trans m4) (R3.same (same_new hp)) (.tup upd_same ((cut_is e3 lo hi).mono m4))
  · exact t4.elim

/-! ### built-ins called by name -/
abbrev DG := List PyData → (PyData → Prop) → Prop
def Fit (r : List V → Hp → VK → Prop) (g : DG) : Prop := ∀ (O : Addr → Prop) (H : Hp) (xs : List V) (ds : List PyData) (q : PyData → Prop) (Q : VK), (∀ a, O a → ∃ o, H a = some o) → RdAll O H xs ds → g ds q →
  (∀ z dz H', q dz → Same H H' → Is O H' z dz → Q z H') → r xs H Q
def dB1 (g : DG) (t : DTA) : DT := fun ρ q => t ρ fun os ρ1 => rdAll os ρ1 fun ds => g ds fun r => q (.vl r) ρ1
theorem upG {r : List V → Hp → VK → Prop} {g : DG} (f : Fit r g) {σ : L2.St} {H : Hp} {Q : VK} (h : upO (dB1 g t) σ H Q) : upA t σ H fun vs H1 => r vs H1 Q := by
  obtain ⟨B, ρ, q, R, t, k⟩ := h
  refine ⟨B, ρ, _, R, t, fun os ρ1 vs H1 t1 m1 R1 i1 => ?_⟩
  obtain ⟨ds, t2, rs⟩ := OAll.rd R1 i1 t1
  exact f _ H1 vs ds _ _ R1.owt rs t2 fun z dz H' hq hs hz => k _ _ _ _ hq (m1.trans (.same hs)) (R1.same hs) hz
theorem do_callB {id : String} {r : List V → Hp → VK → Prop} {g : DG} {x : Str} {p : Pos} (hc : CallR X (.builtin id) r) (f : Fit r g) (hg : Gl X x) (hm : X.mg x = none) (hv : bootBuiltins x = some (.builtin id)) (ha : DA X (e :: es) t) (hn : x ≠ "__name__" := by decide) (hdb : (x == ("__debug__" : Str)) = false := by decide)
    (he : starEach (e :: es) X.env = (false, eval e X.env) :: starEach es X.env := by rfl) (hpl : (backTo pos (starEach es X.env)).any (·.1) = false := by rfl) : DO X (.Call (.Name x p) (e :: es) [] pos) (dB1 g t) :=
  PE.imp (pe_callB hc hg hm hv ha hn hdb he hpl) fun _ _ _ h => upG f h
theorem do_callTy {id : String} {r : List V → Hp → VK → Prop} {g : DG} {x : Str} {p : Pos} (hc : CallR X (.type id) r) (f : Fit r g) (hg : Gl X x) (hm : X.mg x = none) (hv : bootBuiltins x = some (.type id)) (ha : DA X (e :: es) t) (hn : x ≠ "__name__" := by decide) (hdb : (x == ("__debug__" : Str)) = false := by decide)
    (he : starEach (e :: es) X.env = (false, eval e X.env) :: starEach es X.env := by rfl) (hpl : (backTo pos (starEach es X.env)).any (·.1) = false := by rfl) : DO X (.Call (.Name x p) (e :: es) [] pos) (dB1 g t) :=
  PE.imp (pe_callTy hc hg hm hv ha hn hdb he hpl) fun _ _ _ h => upG f h
/-- one argument -/
theorem rdAll1 {O : Addr → Prop} {H : Hp} {xs : List V} {d : PyData} (h : RdAll O H xs [d]) : ∃ x, xs = [x] ∧ RdB O H x d := by
  cases h with
  | cons r t => cases t; exact ⟨_, rfl, r⟩
theorem rdAll2 {O : Addr → Prop} {H : Hp} {xs : List V} {d e : PyData} (h : RdAll O H xs [d, e]) : ∃ x y, xs = [x, y] ∧ RdB O H x d ∧ RdB O H y e := by
  cases h with
  | cons r t =>
    cases t with
    | cons r' t => cases t; exact ⟨_, _, rfl, r, r'⟩
/-- a function of one argument -/
def g1 (g : D1) : DG := fun ds q => match ds with
  | [d] => g d q
  | _ => False
def g2 (g : D2) : DG := fun ds q => match ds with
  | [d, e] => g d e q
  | _ => False
/-- len -/
def gLen : D1 := fun d q => match d with
  | .str x => (L x).length ≤ 16777216 ∧ q (.int ((L x).length : Nat))
  | .list ds => q (.int (ds.length : Nat))
  | .tuple ds => q (.int (ds.length : Nat))
  | _ => False
theorem fit_len {K : PySem.W.Frag} : Fit (fun xs H Q => ∃ x n, xs = [x] ∧ LenV K x H n ∧ Q (.int (n : Nat)) H) (g1 gLen) := fun O H xs ds q Q _ rs h k => by
  unfold g1 at h
  split at h
  · rename_i d
    obtain ⟨x, rfl, r⟩ := rdAll1 rs
    unfold gLen at h
    split at h
    · obtain rfl := r.str
      exact ⟨_, _, rfl, ⟨by rw [sizeLine_eq, ← L_len]; exact h.1, (L_len _)⟩, k _ _ _ h.2 (Same.refl _) (.int _)⟩
    · obtain ⟨a, ys, rfl, e2, e3⟩ := r.lst
      exact ⟨_, _, rfl, .inl ⟨ys, SqL.of e2, e3.length.symm⟩, k _ _ _ h (Same.refl _) (.int _)⟩
    · obtain ⟨a, ys, rfl, e2, e3⟩ := r.tup
      exact ⟨_, _, rfl, .inr ⟨ys, SqT.of e2, e3.length.symm⟩, k _ _ _ h (Same.refl _) (.int _)⟩
    · exact h.elim
  · exact h.elim
theorem do_len {p : Pos} (hg : Gl X "len") (hm : X.mg "len" = none) (ha : DO X e ta) (he : starEach [e] X.env = (false, eval e X.env) :: starEach [] X.env := by rfl) : DO X (.Call (.Name "len" p) [e] [] pos) (dB1 (g1 gLen) (dCons ta dNil)) :=
  do_callB call_len fit_len hg hm boot_len (da_cons ha da_nil he) (by decide) (by decide) he
/-- a function of ints alone -/
def gAbs : D1 := fun d q => match d with
  | .int i => q (.int (if i < 0 then -i else i))
  | _ => False
abbrev gMax : DG := g2 (gII (fun _ _ => True) fun i j => .int (if j > i then j else i))
abbrev gMin : DG := g2 (gII (fun _ _ => True) fun i j => .int (if j < i then j else i))
theorem fit_abs : Fit (fun xs H Q => ∃ i, xs = [.int i] ∧ Q (.int (if i < 0 then -i else i)) H) (g1 gAbs) := fun O H xs ds q Q _ rs h k => by
  unfold g1 at h
  split at h
  · rename_i d
    obtain ⟨x, rfl, r⟩ := rdAll1 rs
    unfold gAbs at h
    split at h
    · obtain rfl := r.int
      exact ⟨_, rfl, k _ _ _ h (Same.refl _) (.int _)⟩
    · exact h.elim
  · exact h.elim
theorem fit_II {g : Int → Int → Int} : Fit (fun xs H Q => ∃ i j, xs = [.int i, .int j] ∧ Q (.int (g i j)) H) (g2 (gII (fun _ _ => True) fun i j => .int (g i j))) := fun O H xs ds q Q _ rs h k => by
  unfold g2 at h
  split at h
  · rename_i d e
    obtain ⟨x, y, rfl, r, r'⟩ := rdAll2 rs
    unfold gII at h
    split at h
    · obtain rfl := r.int
      obtain rfl := r'.int
      exact ⟨_, _, rfl, k _ _ _ h.2 (Same.refl _) (.int _)⟩
    · exact h.elim
  · exact h.elim
theorem do_abs {p : Pos} (hg : Gl X "abs") (hm : X.mg "abs" = none) (ha : DO X e ta) (he : starEach [e] X.env = (false, eval e X.env) :: starEach [] X.env := by rfl) :
    DO X (.Call (.Name "abs" p) [e] [] pos) (dB1 (g1 gAbs) (dCons ta dNil)) :=
  do_callB call_abs fit_abs hg hm (by decide +kernel) (da_cons ha da_nil he) (by decide) (by decide) he
theorem do_max2 {p : Pos} (hc : X.calm = true) (hg : Gl X "max") (hm : X.mg "max" = none) (ha : DA X (a :: es) t) (he : starEach (a :: es) X.env = (false, eval a X.env) :: starEach es X.env := by rfl) (hpl : (backTo pos (starEach es X.env)).any (·.1) = false := by rfl) :
    DO X (.Call (.Name "max" p) (a :: es) [] pos) (dB1 (g2 (gII (fun _ _ => True) fun i j => .int (if j > i then j else i))) t) := do_callB (call_max2 hc) fit_II hg hm (by decide +kernel) ha (by decide) (by decide) he hpl
theorem do_min2 {p : Pos} (hc : X.calm = true) (hg : Gl X "min") (hm : X.mg "min" = none) (ha : DA X (a :: es) t) (he : starEach (a :: es) X.env = (false, eval a X.env) :: starEach es X.env := by rfl) (hpl : (backTo pos (starEach es X.env)).any (·.1) = false := by rfl) :
    DO X (.Call (.Name "min" p) (a :: es) [] pos) (dB1 (g2 (gII (fun _ _ => True) fun i j => .int (if j < i then j else i))) t) := do_callB (call_min2 hc) fit_II hg hm (by decide +kernel) ha (by decide) (by decide) he hpl
/-- int of an int or a bool -/
def gInt : D1 := fun d q => match d with
  | .int i => q (.int i)
  | .bool b => q (.int (if b then 1 else 0))
  | _ => False
theorem fit_int : Fit (fun xs H Q => (∃ i, xs = [.int i] ∧ Q (.int i) H) ∨ ∃ k, xs = [.bl k] ∧ Q (.int (if k then 1 else 0)) H) (g1 gInt) := fun O H xs ds q Q _ rs h k => by
  unfold g1 at h
  split at h
  · rename_i d
    obtain ⟨x, rfl, r⟩ := rdAll1 rs
    unfold gInt at h
    split at h
    · obtain rfl := r.int
      exact .inl ⟨_, rfl, k _ _ _ h (Same.refl _) (.int _)⟩
    · obtain rfl := r.bl
      exact .inr ⟨_, rfl, k _ _ _ h (Same.refl _) (.int _)⟩
    · exact h.elim
  · exact h.elim
theorem do_int1 {p : Pos} (hg : Gl X "int") (hm : X.mg "int" = none) (ha : DO X e ta) (he : starEach [e] X.env = (false, eval e X.env) :: starEach [] X.env := by rfl) : DO X (.Call (.Name "int" p) [e] [] pos) (dB1 (g1 gInt) (dCons ta dNil)) :=
  do_callTy call_int1 fit_int hg hm boot_int (da_cons ha da_nil he) (by decide) (by decide) he
/-- all and any of a list of truths -/
def boolsOf : List PyData → Option (List Bool)
  | [] => some []
  | .bool b :: ds => (boolsOf ds).map (b :: ·)
  | _ :: _ => none
theorem bools_is {O : Addr → Prop} {H : Hp} : ∀ {ds : List PyData} {xs : List V} {bs : List Bool}, IsAll O H xs ds → boolsOf ds = some bs → xs = bs.map V.bl
  | [], _, bs, .nil, e => by
    cases e
    rfl
  | d :: ds, _, bs, .cons h t, e => by
    cases d with
    | bool b =>
      simp only [boolsOf] at e
      cases q : boolsOf ds with
      | none => rw [q] at e; cases e
      | some cs =>
        rw [q] at e
        cases e
        cases h
        rw [bools_is t q]
        rfl
    | _ => simp [boolsOf] at e
def gAll (f : List Bool → Bool) : D1 := fun d q => match d with
  | .list ds => ∃ bs, boolsOf ds = some bs ∧ q (.bool (f bs))
  | _ => False
theorem fit_all {K : PySem.W.Frag} {f : List Bool → Bool} : Fit (fun vs H Q => ∃ (a : Addr) (bs : List Bool), vs = [V.ref a] ∧ SqL K H a (bs.map V.bl) ∧ Q (.bl (f bs)) H) (g1 (gAll f)) := fun O H xs ds q Q _ rs h k => by
  unfold g1 at h
  split at h
  · rename_i d
    obtain ⟨x, rfl, r⟩ := rdAll1 rs
    unfold gAll at h
    split at h
    · obtain ⟨bs, h1, h2⟩ := h
      obtain ⟨a, ys, rfl, e2, e3⟩ := r.lst
      have e := bools_is e3 h1
      subst e
      exact ⟨a, bs, rfl, SqL.of e2, k _ _ _ h2 (Same.refl _) (.bl _)⟩
    · exact h.elim
  · exact h.elim
theorem do_all {p : Pos} (hc : X.calm = true) (hg : Gl X "all") (hm : X.mg "all" = none) (ha : DO X e ta) (he : starEach [e] X.env = (false, eval e X.env) :: starEach [] X.env := by rfl) : DO X (.Call (.Name "all" p) [e] [] pos) (dB1 (g1 (gAll (·.all id))) (dCons ta dNil)) :=
  do_callB (cr_all hc) fit_all hg hm (by decide +kernel) (da_cons ha da_nil he) (by decide) (by decide) he
theorem do_any {p : Pos} (hc : X.calm = true) (hg : Gl X "any") (hm : X.mg "any" = none) (ha : DO X e ta) (he : starEach [e] X.env = (false, eval e X.env) :: starEach [] X.env := by rfl) : DO X (.Call (.Name "any" p) [e] [] pos) (dB1 (g1 (gAll (·.any id))) (dCons ta dNil)) :=
  do_callB (cr_any hc) fit_all hg hm (by decide +kernel) (da_cons ha da_nil he) (by decide) (by decide) he
/-- list(x), tuple(x): new ones -/
def gListOf : D1 := fun d q => match d with
  | .list ds => q (.list ds)
  | .tuple ds => q (.list ds)
  | _ => False
theorem fit_listOf {K : PySem.W.Frag} : Fit (fun xs H Q => ∃ p ys, xs = [.ref p] ∧ (SqL K H p ys ∨ SqT K H p ys) ∧ ∀ l, H l = none → Q (.ref l) (upd H l (.lst ys))) (g1 gListOf) := fun O H xs ds q Q tr rs h k => by
  unfold g1 at h
  split at h
  · rename_i d
    obtain ⟨x, rfl, r⟩ := rdAll1 rs
    have fin : ∀ {a : Addr} {ys : List V} {ds : List PyData} (l : Addr), q (.list ds) → IsAll O H ys ds → H l = none → Q (.ref l) (upd H l (.lst ys)) := fun {a ys ds} l hq e3 hl => by
      refine k _ _ _ hq (same_new hl) (.lst (fun z => ?_) upd_same (e3.mono (.new hl)))
      obtain ⟨o, eo⟩ := tr _ z
      rw [hl] at eo; cases eo
    unfold gListOf at h
    split at h
    · obtain ⟨a, ys, rfl, e2, e3⟩ := r.lst
      exact ⟨a, ys, rfl, .inl (SqL.of e2), fun l hl => fin (a := a) l h e3 hl⟩
    · obtain ⟨a, ys, rfl, e2, e3⟩ := r.tup
      exact ⟨a, ys, rfl, .inr (SqT.of e2), fun l hl => fin (a := a) l h e3 hl⟩
    · exact h.elim
  · exact h.elim
theorem do_listOf {p : Pos} (hg : Gl X "list") (hm : X.mg "list" = none) (ha : DO X e ta) (he : starEach [e] X.env = (false, eval e X.env) :: starEach [] X.env := by rfl) : DO X (.Call (.Name "list" p) [e] [] pos) (dB1 (g1 gListOf) (dCons ta dNil)) :=
  do_callTy call_list_of fit_listOf hg hm (by decide +kernel) (da_cons ha da_nil he) (by decide) (by decide) he

/-! ### texts' methods -/
def strsOf : List PyData → Option (List Str)
  | [] => some []
  | .str x :: ds => (strsOf ds).map (x :: ·)
  | _ :: _ => none
theorem strs_is {O : Addr → Prop} {H : Hp} : ∀ {ds : List PyData} {xs : List V} {bs : List Str}, IsAll O H xs ds → strsOf ds = some bs → xs = bs.map V.str
  | [], _, bs, .nil, e => by
    cases e
    rfl
  | d :: ds, _, bs, .cons h t, e => by
    cases d with
    | str b =>
      simp only [strsOf] at e
      cases q : strsOf ds with
      | none => rw [q] at e; cases e
      | some cs =>
        rw [q] at e
        cases e
        cases h
        rw [strs_is t q]
        rfl
    | _ => simp [strsOf] at e
/-- a text's method with one argument -/
def dM1 (g : D2) (ta tb : DT) : DT := fun ρ q => ta ρ fun oa ρ1 => oa.rd ρ1 fun d => match d with
  | .str x => tb ρ1 fun ob ρ2 => ob.rd ρ2 fun e => g (.str x) e fun r => q (.vl r) ρ2
  | _ => False
theorem upM1 {r : V → List V → Hp → VK → Prop} {g : D2} (f : Fit2 (fun x y H Q => r x [y] H Q) g) {σ : L2.St} {H : Hp} {Q : VK} (h : upO (dM1 g ta tb) σ H Q) : tM1 r (upO ta) (upO tb) σ H Q := by
  obtain ⟨B, ρ, q, R, t, k⟩ := h
  refine ⟨B, ρ, _, R, t, fun oa ρ1 v1 H1 t1 m1 R1 i1 => ?_⟩
  obtain ⟨d, t2, r2⟩ := i1.rd R1 t1
  split at t2
  · rename_i x
    obtain rfl := r2.str
    refine ⟨⟨x, rfl⟩, B, ρ1, _, R1, t2, fun ob ρ2 v2 H2 t3 m2 R2 i2 => ?_⟩
    obtain ⟨e, t4, r4⟩ := i2.rd R2 t3
    exact f _ H2 _ v2 (.str x) e _ _ R2.owt (.inl (.str x)) r4 t4 fun z dz H' hq hs hz => k _ _ _ _ hq ((m1.trans m2).trans (.same hs)) (R2.same hs) hz
  · exact t2.elim
/-- a text's join of a list of texts -/
def gJoin : D2 := fun d e q => match d with
  | .str x => match e with
    | .list ds => ∃ ys, strsOf ds = some ys ∧ (ys.map (·.length)).sum + ys.length * x.length ≤ 16777216 ∧ q (.str (Txt.join x ys))
    | _ => False
  | _ => False
theorem do_join {apos : Pos} (ha : DO X a ta) (hb : DO X b tb) (hs : starEach [b] X.env = [(false, eval b X.env)] := by rfl) (hbase : attributeBase a "join" X.env (eval a X.env) = eval a X.env := by rfl) (hline : (apos.endLine == pos.line) = true := by rfl) :
    DO X (.Call (.Attribute a "join" apos) [b] [] pos) (dM1 gJoin ta tb) := PE.imp (pe_join ha hb hs hbase hline) fun _ _ _ h => upM1 (fun O H x y d e q Q _ hx hy h k => by
  unfold gJoin at h
  split at h
  · split at h
    · obtain ⟨ys, h1, h2, h3⟩ := h
      obtain ⟨p, xs, e1, e2, e3⟩ := hy.lst
      have e := strs_is e3 h1
      subst e
      exact ⟨_, p, ys, hx.str, by rw [e1], .inl (SqL.of e2), h2, k _ _ _ h3 (Same.refl _) (.str _)⟩
    · exact h.elim
  · exact h.elim) h
def gStarts : D2 := fun d e q => match d, e with
  | .str x, .str y => q (.bool (Txt.startswith x y))
  | _, _ => False
theorem do_starts {apos : Pos} (ha : DO X a ta) (hb : DO X b tb) (hs : starEach [b] X.env = [(false, eval b X.env)] := by rfl) (hbase : attributeBase a "startswith" X.env (eval a X.env) = eval a X.env := by rfl) (hline : (apos.endLine == pos.line) = true := by rfl) :
    DO X (.Call (.Attribute a "startswith" apos) [b] [] pos) (dM1 gStarts ta tb) := PE.imp (pe_m1 F.slot_str_startswith F.type_str_startswith mt_startswith ha hb hs hbase hline) fun _ _ _ h => upM1 (fun O H x y d e q Q _ hx hy h k => by
  unfold gStarts at h
  split at h
  · exact ⟨_, _, hx.str, by rw [hy.str], k _ _ _ h (Same.refl _) (.bl _)⟩
  · exact h.elim) h
/-- a sign in a text -/
def gInS (f : Bool → Bool) : D2 := fun d e q => match d, e with
  | .str x, .str y => ∃ c, L x = [c] ∧ q (.bool (f (decide (c ∈ L y))))
  | _, _ => False
theorem str_one {x : Str} {c : Nat} (h : L x = [c]) : x = ⟨#[c]⟩ := by
  rw [← mk_L x, h]
  rfl
theorem fit_inS : Fit2 (fun x y H Q => ∃ (c : Nat) (z : Str), x = .str ⟨#[c]⟩ ∧ y = .str z ∧ Q (.bl (decide (c ∈ z.cps.toList))) H) (gInS id) := fun O H x y d e q Q _ hx hy h k => by
  unfold gInS at h
  split at h
  · obtain ⟨c, h1, h2⟩ := h
    exact ⟨c, _, by rw [hx.str, str_one h1], hy.str, k _ _ _ h2 (Same.refl _) (.bl _)⟩
  · exact h.elim
theorem fit_notInS : Fit2 (fun x y H Q => ∃ (c : Nat) (z : Str), x = .str ⟨#[c]⟩ ∧ y = .str z ∧ Q (.bl (!decide (c ∈ z.cps.toList))) H) (gInS (!·)) := fun O H x y d e q Q _ hx hy h k => by
  unfold gInS at h
  split at h
  · obtain ⟨c, h1, h2⟩ := h
    exact ⟨c, _, by rw [hx.str, str_one h1], hy.str, k _ _ _ h2 (Same.refl _) (.bl _)⟩
  · exact h.elim
theorem do_inS (ha : DO X a ta) (hb : DO X b tb) (hm : behindInMarks .In b = false := by rfl) : DO X (.Compare a [.In] [b] pos) (d2 (gInS id) ta tb) := do_cmp op_in_sign fit_inS ha hb hm
theorem do_notInS (ha : DO X a ta) (hb : DO X b tb) (hm : behindInMarks .NotIn b = false := by rfl) : DO X (.Compare a [.NotIn] [b] pos) (d2 (gInS (!·)) ta tb) := do_cmp op_notIn_sign fit_notInS ha hb hm

/-! ### calls of defs -/
/-- a def's promise on data: F asks of the arguments' data and tells the value's data and what the first argument holds then (m: it may be written) -/
abbrev DF := List PyData → (PyData → PyData → Prop) → Prop
/-- the arguments behind the first one -/
def spD (m : Bool) (n : Nat) (F : DF) : Sp := fun vs H Q _ => vs.length = n ∧ ∃ (O : Addr → Prop) (ds : List PyData) (q : PyData → PyData → Prop), (∀ a, O a → ∃ o, H a = some o ∧ isTup o = false) ∧ F ds q ∧
  if m then ∃ (a : Addr) (ws : List V) (d0 : PyData) (es : List PyData), vs = .ref a :: ws ∧ ds = d0 :: es ∧ O a ∧ Top O H a d0 ∧ IsAll O H ws es ∧
      ∀ d e v H', q d e → (∀ b o, H b = some o → b ≠ a → H' b = some o) → Top O H' a e → Is O H' v d → Q v H'
  else IsAll O H vs ds ∧ ∀ d e v H', q d e → Same H H' → Is O H' v d → Q v H'
end
end DL
namespace DL
open PySem PySem.Spec PyProof.Rows L2

/-! ### calls of defs -/
/-- an argument that is an own container's name -/
def ownArg (ρ : DEnv) (o : OV) (b : Addr) : Prop := match o with
  | .vl _ => False
  | .nm i => ∃ c, ρ[i]? = some (some c) ∧ cellA c b
def ownArgs (ρ : DEnv) (os : List OV) (b : Addr) : Prop := ∃ o ∈ os, ownArg ρ o b
/-- no argument is an own container's name -/
def noOwn1 (ρ : DEnv) : OV → Bool
  | .vl _ => true
  | .nm i => match ρ[i]? with
    | some (some (.val _)) => true
    | _ => false
def noOwn (ρ : DEnv) (os : List OV) : Bool := os.all (noOwn1 ρ)
theorem noOwn_not {ρ : DEnv} {os : List OV} (h : noOwn ρ os = true) (b : Addr) : ¬ ownArgs ρ os b := fun ⟨o, ho, z⟩ => by
  have q : noOwn1 ρ o = true := List.all_eq_true.mp h o ho
  cases o with
  | vl d => exact z
  | nm i =>
    obtain ⟨c, e, z⟩ := z
    cases c with
    | val d => exact z
    | own a d => simp [noOwn1, e] at q
    | deep P d => simp [noOwn1, e] at q
/-- the arguments, outside all own containers but those that are arguments -/
theorem OAll.args {B : Bs} {ρ : DEnv} {σ : L2.St} {H : Hp} (R : Rep B ρ σ H) {P : Addr → Prop} : ∀ {vs : List V} {os : List OV} {k : List PyData → Prop}, (∀ o ∈ os, ∀ b, ownArg ρ o b → P b) → OAll B ρ σ H vs os → rdAll os ρ k →
    ∃ ds, k ds ∧ IsAll (fun b => OW B ρ b ∧ ¬ P b) H vs ds
  | _, _, _, _, .nil, h => ⟨[], h, .nil⟩
  | v :: vs, o :: os, k, hp, .cons i t, h => by
    have m : Adv (OW B ρ) (fun b => OW B ρ b ∧ ¬ P b) H H := Adv.sub fun _ z => z.1
    have one : ∀ {k : PyData → Prop}, o.rd ρ k → ∃ d, k d ∧ Is (fun b => OW B ρ b ∧ ¬ P b) H v d := by
      intro k r
      cases o with
      | vl d => exact ⟨d, r, Is.mono m i⟩
      | nm j =>
        simp only [OV.rd] at r
        have h' : σ[j]? = some (some v) := i
        split at r
        · rename_i d e
          obtain ⟨w, e1, e2⟩ := R.val j d e
          rw [h'] at e1; cases e1
          exact ⟨d, r, e2.mono m⟩
        · rename_i a d e
          obtain ⟨e1, e2, e3, _⟩ := R.own j a d e
          rw [h'] at e1; cases e1
          exact ⟨d, r, (e3.mono m rfl).is fun z => z.2 (hp _ (List.mem_cons_self ..) a ⟨_, e, rfl⟩)⟩
        · exact r.elim
    obtain ⟨d, h1, r⟩ := one h
    obtain ⟨ds, h2, rs⟩ := OAll.args R (fun o ho => hp o (List.mem_cons_of_mem _ ho)) t h1
    exact ⟨d :: ds, h2, .cons r rs⟩
section
variable {X : Cx} {a b c e : Expr} {es : List Expr} {ta tb tc : DT} {t : DTA} {pos : Pos} {x : Str} {p : Pos} {k n : Nat} {f : Addr} {fd : FuncData} {ps : List Str} {F : DF}
def dCall (n : Nat) (F : DF) (t : DTA) : DT := fun ρ q => t ρ fun os ρ1 => os.length = n ∧ rdAll os ρ1 fun ds => F ds fun d _ => (flat d = true ∨ noOwn ρ1 os = true) ∧ q (.vl d) ρ1
theorem upCall {E : XK} {σ : L2.St} {H : Hp} {Q : VK} (h : upO (dCall n F t) σ H Q) : tCall (spD false n F) [] E (upA t) σ H Q := by
  obtain ⟨B, ρ, q, R, t, k⟩ := h
  refine ⟨B, ρ, _, R, t, fun os ρ1 vs H1 t1 m1 R1 i1 => ?_⟩
  obtain ⟨hl, t1⟩ := t1
  rw [List.append_nil]
  obtain ⟨ds, h1, is⟩ := OAll.args (P := ownArgs ρ1 os) R1 (fun o ho b z => ⟨o, ho, z⟩) i1 t1
  refine ⟨by rw [Paired.length i1, hl], fun b => OW B ρ1 b ∧ ¬ ownArgs ρ1 os b, ds, _, fun a z => R1.ow z.1, h1, ?_⟩
  rw [if_neg Bool.false_ne_true]
  refine ⟨is, fun d e v H' hq hs hv => k _ _ _ _ hq.2 (m1.trans (.same hs)) (R1.same hs) ?_⟩
  rcases hq.1 with hf | hf
  · exact hv.flat_any hf
  · exact hv.mono (Adv.sub fun b z => ⟨z, noOwn_not hf b⟩)
theorem do_call (G : FnOk X.prog X.w X.K X.mg X.base CX0 k f fd ps (spD false n F)) (hr : Room k X.A) (hg : Gl X x) (hm : X.mg x = some (.ref f)) (hk : PySem.W.keepIn X.K (.ref f) = true) (hb : Binds X.K fd ps [])
    (ha : DA X (e :: es) t) (hdb : (x == ("__debug__" : Str)) = false := by decide) (he : starEach (e :: es) X.env = (false, eval e X.env) :: starEach es X.env := by rfl) (hpl : (backTo pos (starEach es X.env)).any (·.1) = false := by rfl) :
    DO X (.Call (.Name x p) (e :: es) [] pos) (dCall n F t) := PE.imp (pe_call G hr hg hm hk hb .nil pass0 ha hdb he hpl) fun _ _ _ h => upCall h
/-- the first argument may be written -/
def dCallM (n : Nat) (F : DF) (t : DTA) : DT := fun ρ q => t ρ fun os ρ1 => os.length = n ∧ match os with
  | .nm i :: os' => tkAll os' ρ1 fun es ρ2 => match ρ2[i]? with
    | some (some (.own a d0)) => F (d0 :: es) fun d e => q (.vl d) (ρ2.set i (some (.own a e)))
    | _ => False
  | _ => False
theorem upCallM {E : XK} {σ : L2.St} {H : Hp} {Q : VK} (h : upO (dCallM n F t) σ H Q) : tCall (spD true n F) [] E (upA t) σ H Q := by
  obtain ⟨B, ρ, q, R, t, k⟩ := h
  refine ⟨B, ρ, _, R, t, fun os ρ1 vs H1 t1 m1 R1 i1 => ?_⟩
  obtain ⟨hl, t1⟩ := t1
  rw [List.append_nil]
  refine ⟨by rw [Paired.length i1, hl], ?_⟩
  split at t1
  · rename_i i os'
    cases i1 with
    | cons i0 i1 =>
      rename_i v vs
      obtain ⟨es, ρ2, h2, is, R2, m2⟩ := OAll.tk R1 i1 t1
      split at h2
      · rename_i ad d0 hc
        obtain ⟨g1, g2, g3, g4⟩ := R2.own i ad d0 hc
        have e0 : σ[i]? = some (some v) := i0
        rw [g1] at e0
        cases e0
        refine ⟨OW B ρ2, d0 :: es, _, fun b z => R2.ow z, h2, ?_⟩
        rw [if_pos rfl]
        refine ⟨ad, vs, d0, es, rfl, rfl, .inr ⟨i, _, hc, rfl⟩, g3, is, fun d e w H' hq hk ht hw => ?_⟩
        obtain ⟨R3, m3⟩ := R2.writeBy hc hk ht
        exact k _ _ _ _ hq ((m1.trans m2).trans m3) R3 (hw.mono (Adv.sub fun b z => z.elim .inl fun z => (owns_set z).elim (fun ⟨_, z, y⟩ => by cases z; cases (show b = ad from y); exact .inr ⟨i, _, hc, rfl⟩) .inr))
      · exact h2.elim
  · exact t1.elim
theorem do_callM (G : FnOk X.prog X.w X.K X.mg X.base CX0 k f fd ps (spD true n F)) (hr : Room k X.A) (hg : Gl X x) (hm : X.mg x = some (.ref f)) (hk : PySem.W.keepIn X.K (.ref f) = true) (hb : Binds X.K fd ps [])
    (ha : DA X (e :: es) t) (hdb : (x == ("__debug__" : Str)) = false := by decide) (he : starEach (e :: es) X.env = (false, eval e X.env) :: starEach es X.env := by rfl) (hpl : (backTo pos (starEach es X.env)).any (·.1) = false := by rfl) :
    DO X (.Call (.Name x p) (e :: es) [] pos) (dCallM n F t) := PE.imp (pe_call G hr hg hm hk hb .nil pass0 ha hdb he hpl) fun _ _ _ h => upCallM h
/-- what an operand holds, handed on (an own container is frozen) -/
def dFrz (ta : DT) : DT := fun ρ q => ta ρ fun o ρ1 => o.tk ρ1 fun d ρ2 => q (.vl d) ρ2
theorem do_frz (ha : DO X a ta) : DO X a (dFrz ta) := PE.imp ha fun σ H Q ⟨B, ρ, q, R, t, k⟩ => by
  refine ⟨B, ρ, _, R, t, fun o ρ1 v H1 t1 m1 R1 i1 => ?_⟩
  obtain ⟨d, ρ2, h2, is, R2, m2⟩ := i1.tk R1 t1
  exact k _ _ _ _ h2 (m1.trans m2) R2 is
end

/-! ### statements -/
structure DEnds where
  nx : DEnv → Prop
  rt : PyData → DEnv → Prop
  bk : DEnv → Prop := fun _ => False
  ct : DEnv → Prop := fun _ => False
abbrev DTS := DEnds → DEnv → Prop
structure EndsOk (B : Bs) (O : Addr → Prop) (H : Hp) (D : Ends) (E : DEnds) : Prop where
  nx : ∀ ρ' σ' H', E.nx ρ' → Adv O (OW B ρ') H H' → Rep B ρ' σ' H' → D.nx σ' H'
  rt : ∀ d ρ' σ' v H', E.rt d ρ' → Adv O (OW B ρ') H H' → Rep B ρ' σ' H' → Is (OW B ρ') H' v d → D.rt v H'
  bk : ∀ ρ' σ' H', E.bk ρ' → Adv O (OW B ρ') H H' → Rep B ρ' σ' H' → D.bk σ' H'
  ct : ∀ ρ' σ' H', E.ct ρ' → Adv O (OW B ρ') H H' → Rep B ρ' σ' H' → D.ct σ' H'
theorem EndsOk.adv {B : Bs} {O O' : Addr → Prop} {H H' : Hp} {D : Ends} {E : DEnds} (h : EndsOk B O H D E) (m : Adv O O' H H') : EndsOk B O' H' D E :=
  ⟨fun _ _ _ a b c => h.nx _ _ _ a (m.trans b) c, fun _ _ _ _ _ a b c d => h.rt _ _ _ _ _ a (m.trans b) c d, fun _ _ _ a b c => h.bk _ _ _ a (m.trans b) c, fun _ _ _ a b c => h.ct _ _ _ a (m.trans b) c⟩
def upS (t : DTS) : TS := fun D σ H => ∃ B ρ E, Rep B ρ σ H ∧ t E ρ ∧ EndsOk B (OW B ρ) H D E
abbrev DS (X : Cx) (st : Stmt) (t : DTS) : Prop := PS X st (upS t)
abbrev DSs (X : Cx) (st : List Stmt) (t : DTS) : Prop := PSs X st (upS t)
section
variable {X : Cx} {a b c e : Expr} {es : List Expr} {ta tb tc : DT} {t : DTA} {pos : Pos} {st : Stmt} {rest : List Stmt} {u v : DTS} {s : DTT}
def sNext : DTS := fun E ρ => E.nx ρ
def sSeq (u v : DTS) : DTS := fun E ρ => u { E with nx := v E } ρ
theorem ds_nil : DSs X [] sNext := PSs.imp pss_nil fun D σ H ⟨B, ρ, E, R, t, k⟩ => k.nx _ _ _ t .refl R
theorem ds_cons (h1 : DS X st u) (h2 : DSs X rest v) : DSs X (st :: rest) (sSeq u v) := PSs.imp (pss_cons h1 h2) fun D σ H ⟨B, ρ, E, R, t, k⟩ =>
  ⟨B, ρ, _, R, t, fun ρ' σ' H' t1 m1 R1 => ⟨B, ρ', E, R1, t1, k.adv m1⟩, k.rt, k.bk, k.ct⟩
theorem ds_one (h1 : DS X st u) : DSs X [st] u := pss_one h1
theorem ds_pass : DS X (.Pass pos) sNext := PS.imp ps_pass fun D σ H ⟨B, ρ, E, R, t, k⟩ => k.nx _ _ _ t .refl R
def sBreak : DTS := fun E ρ => E.bk ρ
def sCont : DTS := fun E ρ => E.ct ρ
theorem ds_break : DS X (.Break pos) sBreak := PS.imp ps_break fun D σ H ⟨B, ρ, E, R, t, k⟩ => k.bk _ _ _ t .refl R
theorem ds_continue : DS X (.Continue pos) sCont := PS.imp ps_continue fun D σ H ⟨B, ρ, E, R, t, k⟩ => k.ct _ _ _ t .refl R
/-- a statement that is not come to -/
def sNever : DTS := fun _ _ => False
theorem ds_never : DS X st sNever := PS.imp ps_never fun D σ H ⟨B, ρ, E, R, t, k⟩ => t
def sDrop (ta : DT) : DTS := fun E ρ => ta ρ fun _ ρ' => E.nx ρ'
theorem ds_expr (ha : DO X a ta) (hs : swapsWith a none pos.line X.env = pure false := by rfl) : DS X (.Expr a pos) (sDrop ta) := PS.imp (ps_expr ha hs) fun D σ H ⟨B, ρ, E, R, t, k⟩ =>
  ⟨B, ρ, _, R, t, fun o ρ1 v H1 t1 m1 R1 i1 => k.nx _ _ _ t1 m1 R1⟩
def sRet (ta : DT) : DTS := fun E ρ => ta ρ fun o ρ1 => o.tk ρ1 E.rt
theorem ds_ret (ha : DO X a ta) : DS X (.Return (some a) pos) (sRet ta) := PS.imp (ps_ret ha) fun D σ H ⟨B, ρ, E, R, t, k⟩ => by
  refine ⟨B, ρ, _, R, t, fun o ρ1 v H1 t1 m1 R1 i1 => ?_⟩
  obtain ⟨d, ρ2, h2, is, R2, m2⟩ := i1.tk R1 t1
  exact k.rt _ _ _ _ _ h2 (m1.trans m2) R2 is
def sRetN : DTS := fun E ρ => E.rt .none ρ
theorem ds_retN : DS X (.Return none pos) sRetN := PS.imp ps_retN fun D σ H ⟨B, ρ, E, R, t, k⟩ => k.rt _ _ _ _ _ t .refl R .non
def sIf (s : DTT) (u v : DTS) : DTS := fun E ρ => s ρ fun b ρ' => if b = true then u E ρ' else v E ρ'
theorem ds_if {sa sb : List Stmt} (hc : DP X c s) (ha : DSs X sa u) (hb : DSs X sb v) : DS X (.If c sa sb pos) (sIf s u v) := PS.imp (ps_if hc ha hb) fun D σ H ⟨B, ρ, E, R, t, k⟩ => by
  refine ⟨B, ρ, _, R, t, fun b ρ1 H1 t1 m1 R1 => ?_⟩
  cases b with
  | true =>
    rw [if_pos rfl] at t1 ⊢
    exact ⟨B, ρ1, E, R1, t1, k.adv m1⟩
  | false =>
    rw [if_neg Bool.false_ne_true] at t1 ⊢
    exact ⟨B, ρ1, E, R1, t1, k.adv m1⟩
/-- name = value -/
def sSet (i : Nat) (ta : DT) : DTS := fun E ρ => ta ρ fun o ρ1 => o.tk ρ1 fun d ρ2 => E.nx (ρ2.set i (some (.val d)))
theorem ds_set {i : Nat} {x : Str} {pos' : Pos} (hN : X.N.Nodup) (hi : X.N[i]? = some x) (hx : Loc X.env.scope x) (ha : DO X a ta) (hs : swapsWith a (some (.Name x pos')) pos.line X.env = pure false := by rfl) (hf : X.fn x = true ∨ X.env.scope.names.lookup x = some .local := by first | exact .inl rfl | exact .inr rfl | assumption) :
    DS X (.Assign [.Name x pos'] a pos) (sSet i ta) := PS.imp (ps_set hN hi hx ha hs hf) fun D σ H ⟨B, ρ, E, R, t, k⟩ => by
  refine ⟨B, ρ, _, R, t, fun o ρ1 v H1 t1 m1 R1 i1 => ?_⟩
  obtain ⟨d, ρ2, h2, is, R2, m2⟩ := i1.tk R1 t1
  obtain ⟨R3, m3⟩ := R2.setVal (i := i) is
  exact k.nx _ _ _ h2 ((m1.trans m2).trans m3) R3
/-- an expression that makes a container of its own -/
abbrev DTF := DEnv → (PyData → DEnv → Prop) → Prop
def upF (t : DTF) : TE := fun σ H Q => ∃ B ρ q, Rep B ρ σ H ∧ t ρ q ∧ ∀ p d ρ' H', q d ρ' → ¬ B.O p → (B.mu p ∨ B.H0 p = none) → Adv (OW B ρ) (OW (B.plus p) ρ') H H' → Rep (B.plus p) ρ' σ H' → Top (OW (B.plus p) ρ') H' p d → Q (.ref p) H'
abbrev DFr (X : Cx) (e : Expr) (t : DTF) : Prop := PE X e (upF t)
def fLst (t : DTA) : DTF := fun ρ q => t ρ fun os ρ1 => tkAll os ρ1 fun ds ρ2 => ds.length ≤ 16777216 ∧ q (.list ds) ρ2
theorem dfr_lst (h : DA X es t) : DFr X (.List es pos) (fLst t) := PE.imp (pe_lst h) fun σ H Q ⟨B, ρ, q, R, t, k⟩ => by
  refine ⟨B, ρ, _, R, t, fun os ρ1 vs H1 t1 m1 R1 i1 => ?_⟩
  obtain ⟨ds, ρ2, ⟨hl, t2⟩, is, R2, m2⟩ := OAll.tk R1 i1 t1
  refine ⟨by rw [is.length, sizeLine_eq]; exact hl, fun p hp => ?_⟩
  obtain ⟨R3, tp, m3⟩ := R2.fresh hp (.lst is)
  obtain ⟨e1, e2⟩ := R2.entry hp
  exact k _ _ _ _ t2 e1 e2 ((m1.trans m2).trans m3) R3 tp
end
end DL
namespace DL
open PySem PySem.Spec PyProof.Rows L2

/-! ### the base anew -/
/-- from here on: what stands is kept but for the own containers -/
def Bs.re (B : Bs) (ρ : DEnv) (H : Hp) : Bs := ⟨B.O, H, owns ρ⟩
theorem Rep.re {B : Bs} {ρ : DEnv} {σ : L2.St} {H : Hp} (R : Rep B ρ σ H) : Rep (B.re ρ H) ρ σ H :=
  ⟨R.len, R.trk, R.cel, fun i c a h z => let ⟨h1, h2, _⟩ := R.adr i c a h z; ⟨h1, h2, .inl ⟨i, c, h, z⟩⟩, R.inj, fun _ _ h _ => h⟩
theorem Rep.unre_mu {B : Bs} {ρ : DEnv} {σ : L2.St} {H : Hp} (R : Rep B ρ σ H) {a : Addr} (h : owns ρ a ∨ H a = none) : B.mu a ∨ B.H0 a = none := by
  rcases h with ⟨i, d, h, z⟩ | h
  · exact (R.adr i d a h z).2.2
  · exact (R.entry h).2
theorem Rep.unre {B : Bs} {ρ ρ' : DEnv} {σ σ' : L2.St} {H H' : Hp} {O' : Addr → Prop} (R : Rep B ρ σ H) (R' : Rep ⟨O', H, owns ρ⟩ ρ' σ' H') : Rep { B with O := O' } ρ' σ' H' := by
  refine ⟨R'.len, R'.trk, R'.cel, fun i c a h z => ?_, R'.inj, fun b o e n => ?_⟩
  · obtain ⟨h1, h2, h3⟩ := R'.adr i c a h z
    exact ⟨h1, h2, R.unre_mu h3⟩
  · refine R'.keep b o (R.keep b o e n) fun z => ?_
    rcases R.unre_mu (.inl z) with q | q
    · exact n q
    · rw [e] at q; cases q

/-! ### a name is given a new container -/
section
variable {X : Cx} {a b c e : Expr} {es : List Expr} {ta tb tc : DT} {t : DTA} {pos : Pos} {st : Stmt} {rest : List Stmt} {u v : DTS} {s : DTT} {tf : DTF}
def sSetF (i : Nat) (tf : DTF) : DTS := fun E ρ => tf ρ fun d ρ' => ∀ p, E.nx (ρ'.set i (some (.own p d)))
theorem ds_setF {i : Nat} {x : Str} {pos' : Pos} (hN : X.N.Nodup) (hi : X.N[i]? = some x) (hx : Loc X.env.scope x) (ha : DFr X a tf) (hs : swapsWith a (some (.Name x pos')) pos.line X.env = pure false := by rfl) (hf : X.fn x = true ∨ X.env.scope.names.lookup x = some .local := by first | exact .inl rfl | exact .inr rfl | assumption) :
    DS X (.Assign [.Name x pos'] a pos) (sSetF i tf) := PS.imp (ps_set hN hi hx ha hs hf) fun D σ H ⟨B, ρ, E, R, t, k⟩ => by
  refine ⟨B, ρ, _, R, t, fun p d ρ1 H1 t1 n1 n2 m1 R1 tp => ?_⟩
  obtain ⟨R2, m2⟩ := R1.adopt (i := i) tp n1 n2
  exact k.nx _ _ _ (t1 p) (m1.trans m2) R2
/-- a new container that is handed on at once -/
def dOfF (tf : DTF) : DT := fun ρ q => tf ρ fun d ρ' => q (.vl d) ρ'
theorem do_f (ha : DFr X a tf) : DO X a (dOfF tf) := PE.imp ha fun σ H Q ⟨B, ρ, q, R, t, k⟩ => by
  refine ⟨B, ρ, _, R, t, fun p d ρ1 H1 t1 n1 n2 m1 R1 tp => ?_⟩
  obtain ⟨R2, m2⟩ := R1.drop
  have np : ¬ OW B ρ1 p := fun z => z.elim n1 fun ⟨i, c, h, z⟩ => (R1.adr i c p h z).2.1 (.inr rfl)
  exact k _ _ _ _ t1 (m1.trans m2) R2 ((tp.mono m2 rfl).is np)

/-! ### targets -/
abbrev DTG := PyData → DEnv → (DEnv → Prop) → Prop
/-- nothing but the places ws is written -/
def Only (ws : List Nat) (σ σ' : L2.St) : Prop := σ'.length = σ.length ∧ ∀ j, j ∉ ws → σ'[j]? = σ[j]?
theorem Only.refl {ws : List Nat} {σ : L2.St} : Only ws σ σ := ⟨rfl, fun _ _ => rfl⟩
theorem Only.set {i : Nat} {σ : L2.St} {x : Option V} : Only [i] σ (σ.set i x) := ⟨List.length_set .., fun j hj => List.getElem?_set_ne fun e => hj (by simp [e])⟩
theorem Only.app {ws us : List Nat} {σ σ' σ'' : L2.St} (a : Only ws σ σ') (b : Only us σ' σ'') : Only (ws ++ us) σ σ'' :=
  ⟨b.1.trans a.1, fun j hj => (b.2 j fun z => hj (List.mem_append_right _ z)).trans (a.2 j fun z => hj (List.mem_append_left _ z))⟩
def upTg (ws : List Nat) (g : DTG) : TG := fun v σ H Q => ∃ B ρ d q, Rep B ρ σ H ∧ Is (OW B ρ) H v d ∧ g d ρ q ∧ ∀ ρ' σ', q ρ' → Only ws σ σ' → Adv (OW B ρ) (OW B ρ') H H → Rep B ρ' σ' H → Q σ' H
abbrev DTGs := List PyData → DEnv → (DEnv → Prop) → Prop
def upTgs (ws : List Nat) (g : DTGs) : TGs := fun vs σ H Q => ∃ B ρ ds q, Rep B ρ σ H ∧ IsAll (OW B ρ) H vs ds ∧ g ds ρ q ∧ ∀ ρ' σ', q ρ' → Only ws σ σ' → Adv (OW B ρ) (OW B ρ') H H → Rep B ρ' σ' H → Q σ' H
theorem PG.imp {e : Expr} {t t' : TG} (h : PG X e t) (i : ∀ v σ H Q, t' v σ H Q → t v σ H Q) : PG X e t' := ⟨fun pins s σ H v u Q I r hq => h.run pins s σ H v u Q I r (i v σ H Q hq)⟩
theorem PGs.imp {e : List Expr} {t t' : TGs} (h : PGs X e t) (i : ∀ v σ H Q, t' v σ H Q → t v σ H Q) : PGs X e t' := ⟨fun pins s σ H v u Q I r hq => h.run pins s σ H v u Q I r (i v σ H Q hq)⟩
abbrev DG1 (X : Cx) (e : Expr) (ws : List Nat) (g : DTG) : Prop := PG X e (upTg ws g)
abbrev DGs (X : Cx) (e : List Expr) (ws : List Nat) (g : DTGs) : Prop := PGs X e (upTgs ws g)
variable {ws us : List Nat}
def tgN (i : Nat) : DTG := fun d ρ q => q (ρ.set i (some (.val d)))
theorem dg_name {i : Nat} {x : Str} (hN : X.N.Nodup) (hi : X.N[i]? = some x) (hx : Loc X.env.scope x) (hf : X.fn x = true ∨ X.env.scope.names.lookup x = some .local := by first | exact .inl rfl | exact .inr rfl | assumption) : DG1 X (.Name x pos) [i] (tgN i) :=
  PG.imp (pg_name hN hi hx hf) fun v σ H Q ⟨B, ρ, d, q, R, is, t, k⟩ => by
    obtain ⟨R2, m⟩ := R.setVal (i := i) is
    exact k _ _ t .set m R2
def tgNil : DTGs := fun ds ρ q => ds = [] ∧ q ρ
def tgCons (g : DTG) (h : DTGs) : DTGs := fun ds ρ q => match ds with
  | d :: r => g d ρ fun ρ' => h r ρ' q
  | [] => False
theorem dgs_nil : DGs X [] [] tgNil := PGs.imp pgs_nil fun vs σ H Q ⟨B, ρ, d, q, R, is, t, k⟩ => by
  obtain ⟨rfl, t⟩ := t
  cases is
  exact ⟨rfl, k _ _ t .refl .refl R⟩
theorem dgs_cons {g : DTG} {h : DTGs} (h1 : DG1 X e ws g) (h2 : DGs X es us h) (hs : (assignEach (e :: es) X.env).map (·.2) = assign e X.env :: (assignEach es X.env).map (·.2) := by rfl) : DGs X (e :: es) (ws ++ us) (tgCons g h) := PGs.imp (pgs_cons h1 h2 hs) fun vs σ H Q ⟨B, ρ, ds, q, R, is, t, k⟩ => by
  cases ds with
  | nil => exact t.elim
  | cons d ds =>
    cases is with
    | cons i is =>
      refine ⟨_, _, rfl, B, ρ, d, _, R, i, t, fun ρ1 σ1 t1 y1 m1 R1 => ⟨B, ρ1, ds, q, R1, is.mono m1, t1, fun ρ2 σ2 t2 y2 m2 R2 => k _ _ t2 (y1.app y2) (m1.trans m2) R2⟩⟩
def tgTup (n : Nat) (h : DTGs) : DTG := fun d ρ q => match d with
  | .tuple ds => ds.length = n ∧ h ds ρ q
  | _ => False
theorem dg_tup {h : DTGs} {n kk : Nat} (hc : X.calm = true) (h1 : DGs X es ws h) (hn : (assignEach es X.env).length = n := by rfl) (hst : (assignEach es X.env).findIdx? (·.1) = none := by rfl) : DG1 X (.Tuple es kk pos) ws (tgTup n h) := PG.imp (pg_tup hc h1 hn hst) fun v σ H Q ⟨B, ρ, d, q, R, is, t, k⟩ => by
  unfold tgTup at t
  split at t
  · obtain ⟨a, xs, e1, e2, e3⟩ := is.tup'
    exact ⟨a, xs, e1, SqT.of e2, by rw [e3.length]; exact t.1, B, ρ, _, q, R, e3, t.2, k⟩
  · exact t.elim
/-- target = value -/
def sAsg (ta : DT) (g : DTG) : DTS := fun E ρ => ta ρ fun o ρ1 => o.tk ρ1 fun d ρ2 => g d ρ2 E.nx
theorem ds_asg {tg : Expr} {g : DTG} (ha : DO X a ta) (hg : DG1 X tg ws g) (hs : swapsWithSole [tg] a pos.line X.env = pure false := by rfl) (hw : swappedStores [tg] a X.env = pure none := by rfl) (h1 : (assignEach [tg] X.env).map (·.2) = [assign tg X.env] := by rfl) :
    DS X (.Assign [tg] a pos) (sAsg ta g) := PS.imp (ps_asg ha hg hs hw h1) fun D σ H ⟨B, ρ, E, R, t, k⟩ => by
  refine ⟨B, ρ, _, R, t, fun o ρ1 v H1 t1 m1 R1 i1 => ?_⟩
  obtain ⟨d, ρ2, h2, is, R2, m2⟩ := i1.tk R1 t1
  exact ⟨B, ρ2, d, _, R2, is, h2, fun ρ3 σ3 t3 _ m3 R3 => k.nx _ _ _ t3 ((m1.trans m2).trans m3) R3⟩
/-- name op= value -/
def sAug (i : Nat) (g : D2) (ta : DT) : DTS := fun E ρ => (OV.nm i).rd ρ fun d => ta ρ fun o ρ1 => o.rd ρ1 fun e => g d e fun r => E.nx (ρ1.set i (some (.val r)))
theorem ds_aug {i : Nat} {x : Str} {op : Operator} {ti : TIp} {g : D2} {pos' : Pos} (hN : X.N.Nodup) (hi : X.N[i]? = some x) (hx : Loc X.env.scope x) (ha : DO X a ta) (ho : PIp X op ti) (f : Fit2 ti g) (hsc : ∀ d e q, g d e q → flat d = true) (hf : X.fn x = true ∨ X.env.scope.names.lookup x = some .local := by first | exact .inl rfl | exact .inr rfl | assumption) :
    DS X (.AugAssign (.Name x pos') op a pos) (sAug i g ta) := PS.imp (ps_aug hN hi hx ha ho hf) fun D σ H ⟨B, ρ, E, R, t, k⟩ => by
  simp only [sAug, OV.rd] at t
  have go : ∀ {d : PyData} {v : V}, σ[i]? = some (some v) → RdB (OW B ρ) H v d → (ta ρ fun o ρ1 => o.rd ρ1 fun e => g d e fun r => E.nx (ρ1.set i (some (.val r)))) → tAug i (upO ta) ti D σ H := by
    intro d v hv rv t
    refine ⟨v, hv, B, ρ, _, R, t, fun o ρ1 w H1 t1 m1 R1 i1 => ?_⟩
    obtain ⟨e, t2, r2⟩ := i1.rd R1 t1
    have rv1 : RdB (OW B ρ1) H1 v d := by
      have fl := hsc _ _ _ t2
      rcases rv with rv | ⟨a, rfl, u, hu, hh⟩
      · exact .inl (rv.mono m1)
      · cases hh <;> cases fl
    refine f _ H1 v w d e _ _ R1.owt rv1 r2 t2 fun z dz H2 hq hs hz => ?_
    obtain ⟨R3, m3⟩ := (R1.same hs).setVal (i := i) hz
    exact k.nx _ _ _ hq ((m1.trans (.same hs)).trans m3) R3
  split at t
  · rename_i d e
    obtain ⟨w, e1, e2⟩ := R.val i d e
    exact go e1 (.inl e2) t
  · rename_i a d e
    obtain ⟨e1, e2, e3, _⟩ := R.own i a d e
    exact go e1 (.inr ⟨a, rfl, e3⟩) t
  · exact t.elim
theorem ip_addS : PIp X .Add (fun x y H Q => (∃ i j, x = .int i ∧ y = .int j ∧ Q (.int (i + j)) H) ∨ (∃ i j, x = .str i ∧ y = .str j ∧ i.length + j.length ≤ sizeLine ∧ Q (.str (i ++ j)) H)) := by
  intro pins s σ H x y v u Q I r1 r2 h
  rcases h with h | h
  · exact ip_add pins s σ H x y v u Q I r1 r2 h
  · exact iop_add_str pins s σ H x y v u Q I r1 r2 h
theorem gAdd_flat : ∀ d e q, gAdd d e q → flat d = true := fun d e q h => by
  unfold gAdd at h
  split at h
  · rfl
  · rfl
  · exact h.elim
theorem ds_augAdd {i : Nat} {x : Str} {pos' : Pos} (hN : X.N.Nodup) (hi : X.N[i]? = some x) (hx : Loc X.env.scope x) (ha : DO X a ta) (hf : X.fn x = true ∨ X.env.scope.names.lookup x = some .local := by first | exact .inl rfl | exact .inr rfl | assumption) :
    DS X (.AugAssign (.Name x pos') .Add a pos) (sAug i gAdd ta) := ds_aug hN hi hx ha ip_addS (fun O H x y d e q Q tr hx hy h k => fit_add O H x y d e q Q tr hx hy h k) gAdd_flat hf
theorem ds_augSub {i : Nat} {x : Str} {pos' : Pos} (hN : X.N.Nodup) (hi : X.N[i]? = some x) (hx : Loc X.env.scope x) (ha : DO X a ta) (hf : X.fn x = true ∨ X.env.scope.names.lookup x = some .local := by first | exact .inl rfl | exact .inr rfl | assumption) :
    DS X (.AugAssign (.Name x pos') .Sub a pos) (sAug i (gII (fun _ _ => True) fun i j => .int (i - j)) ta) := ds_aug hN hi hx ha ip_sub (fun O H x y d e q Q tr hx hy h k => fit_rI0 O H x y d e q Q tr hx hy h k) (fun d e q h => by
  unfold gII at h
  split at h
  · rfl
  · exact h.elim) hf

/-! ### while -/
def sWhile (s : DTT) (u : DTS) : DTS := fun E ρ => ∃ W : Nat → DEnv → Prop, (∃ m, W m ρ) ∧ ∀ m ρ, W m ρ → s ρ fun b ρ' => if b = true then u { E with nx := fun ρ'' => ∃ m', m' < m ∧ W m' ρ'', ct := fun ρ'' => ∃ m', m' < m ∧ W m' ρ'', bk := E.nx } ρ' else E.nx ρ'
theorem ds_while {body : List Stmt} (hp : PassesOwn (model X.prog X.w) X.A X.env X.xe) (hc : DP X c s) (hb : DSs X body u) : DS X (.While c body [] pos) (sWhile s u) := PS.imp (ps_while hp hc hb) fun D σ H ⟨B, ρ, E, R, t, k⟩ => by
  obtain ⟨W, ⟨m0, w0⟩, turn⟩ := t
  refine ⟨fun m σ' H' => ∃ ρ', Rep B ρ' σ' H' ∧ Adv (OW B ρ) (OW B ρ') H H' ∧ W m ρ', ⟨m0, ρ, R, .refl, w0⟩, ?_⟩
  rintro m σ1 H1 ⟨ρ1, R1, m1, w1⟩
  refine ⟨B, ρ1, _, R1, turn m ρ1 w1, fun b ρ2 H2 t2 m2 R2 => ?_⟩
  cases b with
  | true =>
    rw [if_pos rfl] at t2 ⊢
    have m12 := m1.trans m2
    refine ⟨fun σ' H' => ∃ m', m' < m ∧ ∃ ρ', Rep B ρ' σ' H' ∧ Adv (OW B ρ) (OW B ρ') H H' ∧ W m' ρ', fun σ' H' z => z, B, ρ2, _, R2, t2, ?_⟩
    refine ⟨fun ρ' σ' H' ⟨m', hm, w⟩ ad R' => ⟨m', hm, ρ', R', m12.trans ad, w⟩, fun d ρ' σ' v H' h ad R' is => k.rt _ _ _ _ _ h (m12.trans ad) R' is, fun ρ' σ' H' h ad R' => k.nx _ _ _ h (m12.trans ad) R', fun ρ' σ' H' ⟨m', hm, w⟩ ad R' => ⟨m', hm, ρ', R', m12.trans ad, w⟩⟩
  | false =>
    rw [if_neg Bool.false_ne_true] at t2 ⊢
    exact k.nx _ _ _ t2 (m1.trans m2) R2

/-! ### what is walked -/
/-- the walk yields the data ds, whatever is written to own containers -/
def Src (J : It) (O : Addr → Prop) (H0 : Hp) (ds : List PyData) : Prop := ∀ (i : Nat) (O' : Addr → Prop) (H : Hp), Adv O O' H0 H →
  (∀ d, ds[i]? = some d → J.go i H ∧ ∀ x H', J.yld i H x H' → Same H H' ∧ Is O' H' x d) ∧ (i = ds.length → J.stop i H)
abbrev DTI := DEnv → (List PyData → DEnv → Prop) → Prop
def upI (t : DTI) : TI := fun σ H R => ∃ B ρ q, Rep B ρ σ H ∧ t ρ q ∧ ∀ ds ρ' J H', q ds ρ' → Adv (OW B ρ) (OW B ρ') H H' → Rep B ρ' σ H' → Src J (OW B ρ') H' ds → R J H'
theorem PI.imp {tg e : Expr} {t t' : TI} (h : PI X tg e t) (i : ∀ σ H R, t' σ H R → t σ H R) : PI X tg e t' := ⟨fun pins s σ H R I hq => h.run pins s σ H R I (i σ H R hq)⟩
abbrev DI (X : Cx) (tg e : Expr) (t : DTI) : Prop := PI X tg e (upI t)
theorem src_list {K : PySem.W.Frag} {O : Addr → Prop} {H0 : Hp} {p : Addr} {xs : List V} {ds : List PyData} (n : ¬ O p) (e : H0 p = some (.lst xs)) (is : IsAll O H0 xs ds) : Src (Itl K p) O H0 ds := fun i O' H m => by
  have e' : H p = some (.lst xs) := m.1 _ _ e (.inl n)
  have only : ∀ ys, SqL K H p ys → True := fun _ _ => trivial
  refine ⟨fun d hd => ?_, fun hl => ⟨xs, SqL.of e', by rw [is.length]; exact Nat.le_of_eq hl.symm⟩⟩
  obtain ⟨v, hv, iv⟩ := is.get hd
  refine ⟨⟨xs, v, SqL.of e', hv⟩, fun x H' hy => ?_⟩
  obtain ⟨rfl, hy⟩ := hy
  have ex : x = v := Option.some.inj ((hy xs (SqL.of e')).symm.trans hv)
  subst ex
  exact ⟨Same.refl _, iv.mono m⟩
theorem src_tup {K : PySem.W.Frag} {O : Addr → Prop} {H0 : Hp} {p : Addr} {xs : List V} {ds : List PyData} (e : H0 p = some (.tup xs)) (is : IsAll O H0 xs ds) : Src (Itt K p) O H0 ds := fun i O' H m => by
  have e' : H p = some (.tup xs) := m.1 _ _ e (.inr rfl)
  refine ⟨fun d hd => ?_, fun hl => ⟨xs, SqT.of e', by rw [is.length]; exact Nat.le_of_eq hl.symm⟩⟩
  obtain ⟨v, hv, iv⟩ := is.get hd
  refine ⟨⟨xs, v, SqT.of e', hv⟩, fun x H' hy => ?_⟩
  obtain ⟨rfl, hy⟩ := hy
  have ex : x = v := Option.some.inj ((hy xs (SqT.of e')).symm.trans hv)
  subst ex
  exact ⟨Same.refl _, iv.mono m⟩
def iL (ta : DT) : DTI := fun ρ q => ta ρ fun o ρ1 => o.tk ρ1 fun d ρ2 => match d with
  | .list ds => q ds ρ2
  | _ => False
theorem di_list {tg : Expr} (ha : DO X a ta) : DI X tg a (iL ta) := PI.imp (pi_list ha) fun σ H R' ⟨B, ρ, q, R, t, k⟩ => by
  refine ⟨B, ρ, _, R, t, fun o ρ1 v H1 t1 m1 R1 i1 => ?_⟩
  obtain ⟨d, ρ2, h2, is, R2, m2⟩ := i1.tk R1 t1
  split at h2
  · cases is with
    | lst n e all => exact ⟨_, rfl, ⟨_, SqL.of e⟩, k _ _ _ _ h2 (m1.trans m2) R2 (src_list n e all)⟩
  · exact h2.elim
def iT (ta : DT) : DTI := fun ρ q => ta ρ fun o ρ1 => o.tk ρ1 fun d ρ2 => match d with
  | .tuple ds => q ds ρ2
  | _ => False
theorem di_tup {tg : Expr} (ha : DO X a ta) : DI X tg a (iT ta) := PI.imp (pi_tup ha) fun σ H R' ⟨B, ρ, q, R, t, k⟩ => by
  refine ⟨B, ρ, _, R, t, fun o ρ1 v H1 t1 m1 R1 i1 => ?_⟩
  obtain ⟨d, ρ2, h2, is, R2, m2⟩ := i1.tk R1 t1
  split at h2
  · cases is with
    | tup e all => exact ⟨_, rfl, ⟨_, SqT.of e⟩, k _ _ _ _ h2 (m1.trans m2) R2 (src_tup e all)⟩
  · exact h2.elim
/-- a text, sign by sign -/
def iS (ta : DT) : DTI := fun ρ q => ta ρ fun o ρ1 => o.rd ρ1 fun d => match d with
  | .str x => q ((L x).map fun c => S [c]) ρ1
  | _ => False
theorem di_str {tg : Expr} (ha : DO X a ta) : DI X tg a (iS ta) := PI.imp (pi_str ha) fun σ H R' ⟨B, ρ, q, R, t, k⟩ => by
  refine ⟨B, ρ, _, R, t, fun o ρ1 v H1 t1 m1 R1 i1 => ?_⟩
  obtain ⟨d, h2, r2⟩ := i1.rd R1 t1
  split at h2
  · rename_i x
    refine ⟨x, r2.str, k _ _ _ _ h2 m1 R1 fun i O' H m => ⟨fun d hd => ?_, fun hl => ?_⟩⟩
    · rw [List.getElem?_map] at hd
      cases q : (L x)[i]? with
      | none => rw [q] at hd; cases hd
      | some c =>
        rw [q] at hd
        cases hd
        have q' : x.cps[i]? = some c := by rw [← Array.getElem?_toList]; exact q
        have hi : i < x.cps.size := (Array.getElem?_eq_some_iff.mp q').1
        refine ⟨hi, fun y H' ⟨e, c', hc, ey⟩ => ?_⟩
        rw [q'] at hc
        cases hc
        subst e ey
        exact ⟨Same.refl _, .str _⟩
    · rw [List.length_map, L_len] at hl
      exact Nat.le_of_eq hl.symm
  · exact h2.elim
/-- range(n), range(a, b) -/
def iR1 (t : DTA) : DTI := fun ρ q => t ρ fun os ρ1 => rdAll os ρ1 fun ds => match ds with
  | [.int j] => -4611686018427387904 ≤ j ∧ j < 4611686018427387904 ∧ q ((List.range j.toNat).map fun k => .int (k : Nat)) ρ1
  | _ => False
theorem src_range {O : Addr → Prop} {H0 : Hp} {lo : Int} {n : Nat} : Src (Itr lo n) O H0 ((List.range n).map fun k => .int (lo + (k : Nat))) := fun i O' H m => by
  refine ⟨fun d hd => ?_, fun hl => by rw [List.length_map, List.length_range] at hl; exact Nat.le_of_eq hl.symm⟩
  rw [List.getElem?_map] at hd
  by_cases hi : i < n
  · rw [List.getElem?_range hi] at hd
    cases hd
    refine ⟨hi, fun x H' ⟨e, ex⟩ => ?_⟩
    subst e ex
    exact ⟨Same.refl _, .int _⟩
  · rw [List.getElem?_eq_none (by rw [List.length_range]; omega)] at hd
    cases hd
theorem di_range1 {tg : Expr} {p : Pos} (hg : Gl X "range") (hm : X.mg "range" = none) (ha : DA X [a] t) (hs : starEach [a] X.env = [(false, eval a X.env)] := by rfl) : DI X tg (.Call (.Name "range" p) [a] [] pos) (iR1 t) := PI.imp (pi_range1 hg hm ha hs) fun σ H R' ⟨B, ρ, q, R, t, k⟩ => by
  refine ⟨B, ρ, _, R, t, fun os ρ1 vs H1 t1 m1 R1 i1 => ?_⟩
  obtain ⟨ds, t2, rs⟩ := OAll.rd R1 i1 t1
  split at t2
  · rename_i j
    obtain ⟨x, rfl, r⟩ := rdAll1 rs
    obtain rfl := r.int
    obtain ⟨b1, b2, t2⟩ := t2
    refine ⟨j, rfl, by omega, by omega, k _ _ _ _ t2 m1 R1 ?_⟩
    have := src_range (O := OW B ρ1) (H0 := H1) (lo := 0) (n := j.toNat)
    simpa using this
  · exact t2.elim
def iR2 (t : DTA) : DTI := fun ρ q => t ρ fun os ρ1 => rdAll os ρ1 fun ds => match ds with
  | [.int i, .int j] => (-4611686018427387904 ≤ i ∧ i < 4611686018427387904 ∧ -4611686018427387904 ≤ j ∧ j < 4611686018427387904) ∧ q ((List.range (j - i).toNat).map fun k => .int (i + (k : Nat))) ρ1
  | _ => False
theorem di_range2 {tg : Expr} {p : Pos} (hg : Gl X "range") (hm : X.mg "range" = none) (ha : DA X [a, b] t) (hs : starEach [a, b] X.env = [(false, eval a X.env), (false, eval b X.env)] := by rfl) (hs2 : starEach [b] X.env = [(false, eval b X.env)] := by rfl) : DI X tg (.Call (.Name "range" p) [a, b] [] pos) (iR2 t) := PI.imp (pi_range2 hg hm ha hs hs2) fun σ H R' ⟨B, ρ, q, R, t, k⟩ => by
  refine ⟨B, ρ, _, R, t, fun os ρ1 vs H1 t1 m1 R1 i1 => ?_⟩
  obtain ⟨ds, t2, rs⟩ := OAll.rd R1 i1 t1
  split at t2
  · rename_i i j
    obtain ⟨x, y, rfl, r, r'⟩ := rdAll2 rs
    obtain rfl := r.int
    obtain rfl := r'.int
    obtain ⟨b1, t2⟩ := t2
    exact ⟨i, j, rfl, by omega, k _ _ _ _ t2 m1 R1 src_range⟩
  · exact t2.elim

/-! ### for -/
def forGo (g : DTG) (u : DTS) (E : DEnds) : List PyData → DEnv → Prop
  | [], ρ => E.nx ρ
  | d :: ds, ρ => g d ρ fun ρ1 => u { E with nx := forGo g u E ds, ct := forGo g u E ds, bk := E.nx } ρ1
def sFor (ti : DTI) (g : DTG) (u : DTS) : DTS := fun E ρ => ti ρ fun ds ρ1 => forGo g u E ds ρ1
theorem ds_for {tg iter : Expr} {body : List Stmt} {ti : DTI} {g : DTG} (hp : PassesOwn (model X.prog X.w) X.A X.env X.xe) (hc : X.calm = true) (hi : DI X tg iter ti) (hg : DG1 X tg ws g) (hb : DSs X body u) (hs : ∀ x, foldedSetIterable iter X.env x = pure x := by intro _; rfl) :
    DS X (.For tg iter body [] pos) (sFor ti g u) := PS.imp (ps_for hp hc hi hg hb hs) fun D σ H ⟨B, ρ, E, R, t, k⟩ => by
  refine ⟨B, ρ, _, R, t, fun ds ρ1 J H1 t1 m1 R1 src => ?_⟩
  refine ⟨fun i m σ' H' => ∃ ρ', Rep B ρ' σ' H' ∧ Adv (OW B ρ1) (OW B ρ') H1 H' ∧ forGo g u E (ds.drop i) ρ' ∧ i ≤ ds.length ∧ m = ds.length - i, ⟨ds.length, ρ1, R1, .refl, t1, Nat.zero_le _, rfl⟩, ?_⟩
  rintro i m σ2 H2 ⟨ρ2, R2, m2, f2, hi, rfl⟩
  obtain ⟨s1, s2⟩ := src i _ _ m2
  by_cases hlt : i < ds.length
  · obtain ⟨go, yl⟩ := s1 ds[i] (List.getElem?_eq_getElem hlt)
    refine .inr ⟨go, fun σ' H' => ∃ ρ', Rep B ρ' σ' H' ∧ Adv (OW B ρ1) (OW B ρ') H1 H' ∧ forGo g u E (ds.drop (i + 1)) ρ', fun σ' H' ⟨ρ', R', m', f'⟩ => ⟨ds.length - (i + 1), by omega, ρ', R', m', f', hlt, rfl⟩, fun x H3 hy => ?_⟩
    obtain ⟨hs, is⟩ := yl x H3 hy
    rw [List.drop_eq_getElem_cons hlt] at f2
    refine ⟨B, ρ2, ds[i], _, R2.same hs, is, f2, fun ρ3 σ3 t3 _ m3 R3 => ⟨B, ρ3, _, R3, t3, ?_⟩⟩
    have m13 := (m2.trans (.same hs)).trans m3
    exact ⟨fun ρ' σ' H' h ad R' => ⟨ρ', R', m13.trans ad, h⟩, fun d ρ' σ' v H' h ad R' is => k.rt _ _ _ _ _ h ((m1.trans m13).trans ad) R' is, fun ρ' σ' H' h ad R' => k.nx _ _ _ h ((m1.trans m13).trans ad) R', fun ρ' σ' H' h ad R' => ⟨ρ', R', m13.trans ad, h⟩⟩
  · have e : ds.drop i = [] := List.drop_eq_nil_of_le (by omega)
    rw [e] at f2
    exact .inl ⟨s2 (by omega), k.nx _ _ _ f2 (m1.trans m2) R2⟩
end
end DL
namespace DL
open PySem PySem.Spec PyProof.Rows L2

/-! ### comprehensions -/
/-- the names of a comprehension have no value at its beginning -/
def wipeD (ρ : DEnv) : List Nat → DEnv
  | [] => ρ
  | i :: r => wipeD (ρ.set i none) r
/-- behind a turn they are what they were outside -/
def backD (ρ0 ρ : DEnv) : List Nat → DEnv
  | [] => ρ
  | i :: r => backD ρ0 (ρ.set i (ρ0.getD i none)) r
def plain1 (ρ : DEnv) (i : Nat) : Bool := match ρ[i]? with
  | some (some (.own _ _)) => false
  | some (some (.deep _ _)) => false
  | _ => true
def plainC (ρ : DEnv) (vs : List Nat) : Bool := vs.all (plain1 ρ)
def lcGo (g : DTG) (tt : DTT) (te : DT) (vs : List Nat) : List PyData → List PyData → DEnv → (PyData → DEnv → Prop) → Prop
  | [], acc, ρ, q => q (.list acc) ρ
  | d :: ds, acc, ρ, q => g d (wipeD ρ vs) fun ρ1 => tt ρ1 fun b ρ2 =>
    if b = true then te ρ2 fun o ρ3 => o.tk ρ3 fun e ρ4 => acc.length < 16777216 ∧ plainC (backD ρ ρ4 vs) vs = true ∧ lcGo g tt te vs ds (acc ++ [e]) (backD ρ ρ4 vs) q
    else plainC (backD ρ ρ2 vs) vs = true ∧ lcGo g tt te vs ds acc (backD ρ ρ2 vs) q
def fLc (ti : DTI) (g : DTG) (tt : DTT) (te : DT) (vs : List Nat) : DTF := fun ρ q => ti ρ fun ds ρ1 => plainC ρ1 vs = true ∧ lcGo g tt te vs ds [] ρ1 q

theorem wipe_len (σ : L2.St) : ∀ vs : List Nat, (wipe σ vs).length = σ.length := wipe_length σ
theorem wipe_in {σ : L2.St} {j : Nat} : ∀ {vs : List Nat}, j ∈ vs → (wipe σ vs)[j]? = if j < σ.length then some none else none := by
  intro vs
  induction vs generalizing σ with
  | nil => intro h; simp at h
  | cons i r ih =>
    intro h
    have e : wipe σ (i :: r) = (wipe σ r).set i none ∨ wipe σ (i :: r) = wipe (σ.set i none) r := by first | exact .inl rfl | exact .inr rfl
    rcases e with e | e
    · rw [e]
      by_cases hj : j = i
      · subst hj
        by_cases hl : j < σ.length
        · rw [if_pos hl, List.getElem?_set_self (by rw [wipe_length]; exact hl)]
        · rw [if_neg hl, List.getElem?_eq_none (by rw [List.length_set, wipe_length]; omega)]
      · rw [List.getElem?_set_ne (Ne.symm hj)]
        exact ih ((List.mem_cons.mp h).resolve_left hj)
    · rw [e]
      by_cases hr : j ∈ r
      · rw [ih hr, List.length_set]
      · have hj : j = i := (List.mem_cons.mp h).resolve_right hr
        subst hj
        rw [wipe_out hr]
        by_cases hl : j < σ.length
        · rw [if_pos hl, List.getElem?_set_self hl]
        · rw [if_neg hl, List.getElem?_eq_none (by rw [List.length_set]; omega)]
/-- who differ at vs alone are alike when wiped there -/
theorem wipe_only {σ σ2 : L2.St} {vs : List Nat} (h : ∀ j, j ∉ vs → σ2[j]? = (wipe σ vs)[j]?) (hl : σ2.length = (wipe σ vs).length) : wipe σ2 vs = wipe σ vs := by
  refine List.ext_getElem? fun j => ?_
  by_cases hj : j ∈ vs
  · rw [wipe_in hj, wipe_in hj, hl, wipe_length]
  · rw [wipe_out hj, h j hj]
section
variable {B : Bs} {ρ ρ' : DEnv} {σ σ' : L2.St} {H H' : Hp}
theorem wipeD_len : ∀ (vs : List Nat) (ρ : DEnv), (wipeD ρ vs).length = ρ.length
  | [], _ => rfl
  | i :: r, ρ => by
    show (wipeD (ρ.set i none) r).length = _
    rw [wipeD_len r, List.length_set]
theorem Rep.wipes : ∀ (vs : List Nat) (ρ : DEnv) (σ : L2.St), Rep B ρ σ H → Rep B (wipeD ρ vs) (L2.wipe σ vs) H ∧ Adv (OW B ρ) (OW B (wipeD ρ vs)) H H := by
  intro vs
  induction vs with
  | nil => intro ρ σ R; exact ⟨R, .refl⟩
  | cons i r ih =>
    intro ρ σ R
    have e : L2.wipe σ (i :: r) = (L2.wipe σ r).set i none ∨ L2.wipe σ (i :: r) = L2.wipe (σ.set i none) r := by first | exact .inl rfl | exact .inr rfl
    obtain ⟨R1, m1⟩ := R.wipe (i := i) none
    obtain ⟨R2, m2⟩ := ih _ _ R1
    refine ⟨?_, m1.trans m2⟩
    rcases e with e | e
    · rw [e]
      have e2 : (L2.wipe σ r).set i none = L2.wipe (σ.set i none) r := by
        refine List.ext_getElem? fun j => ?_
        by_cases hj : j = i
        · subst hj
          by_cases hr : j ∈ r
          · rw [wipe_in hr, List.length_set]
            by_cases hl : j < σ.length
            · rw [if_pos hl, List.getElem?_set_self (by rw [wipe_length]; exact hl)]
            · rw [if_neg hl, List.getElem?_eq_none (by rw [List.length_set, wipe_length]; omega)]
          · rw [wipe_out hr]
            by_cases hl : j < σ.length
            · rw [List.getElem?_set_self (by rw [wipe_length]; exact hl), List.getElem?_set_self hl]
            · rw [List.getElem?_eq_none (by rw [List.length_set, wipe_length]; omega), List.getElem?_eq_none (by rw [List.length_set]; omega)]
        · rw [List.getElem?_set_ne (Ne.symm hj)]
          by_cases hr : j ∈ r
          · rw [wipe_in hr, wipe_in hr, List.length_set]
          · rw [wipe_out hr, wipe_out hr, List.getElem?_set_ne (Ne.symm hj)]
      rw [e2]
      exact R2
    · rw [e]
      exact R2
theorem back_get (ρ0 : DEnv) : ∀ (vs : List Nat) (ρ : DEnv) (j : Nat), (backD ρ0 ρ vs)[j]? = if j ∈ vs then (if j < ρ.length then some (ρ0.getD j none) else none) else ρ[j]? := by
  intro vs
  induction vs with
  | nil => intro ρ j; simp [backD]
  | cons i r ih =>
    intro ρ j
    show (backD ρ0 (ρ.set i (ρ0.getD i none)) r)[j]? = _
    rw [ih, List.length_set]
    by_cases hr : j ∈ r
    · rw [if_pos hr, if_pos (List.mem_cons_of_mem _ hr)]
    · rw [if_neg hr]
      by_cases hj : j = i
      · subst hj
        rw [if_pos (List.mem_cons_self ..)]
        by_cases hl : j < ρ.length
        · rw [if_pos hl, List.getElem?_set_self hl]
        · rw [if_neg hl, List.getElem?_eq_none (by rw [List.length_set]; omega)]
      · rw [if_neg (fun z => (List.mem_cons.mp z).elim hj hr), List.getElem?_set_ne (Ne.symm hj)]
theorem plain_val {ρ : DEnv} {i : Nat} {c : Cell} (h : plain1 ρ i = true) (e : ρ[i]? = some (some c)) : ∃ d, c = .val d := by
  unfold plain1 at h
  rw [e] at h
  cases c with
  | val d => exact ⟨d, rfl⟩
  | own a d => cases h
  | deep P d => cases h
/-- behind a turn of a comprehension: the names outside -/
theorem Rep.back {vs : List Nat} (R : Rep B ρ σ H) (R' : Rep B ρ' σ' H') (m : Adv (OW B ρ) (OW B ρ') H H') (hp : plainC ρ vs = true) (ho : ∀ j, j ∉ vs → σ'[j]? = σ[j]?) (hl : σ'.length = σ.length) :
    Rep B (backD ρ ρ' vs) σ H' ∧ Adv (OW B ρ') (OW B (backD ρ ρ' vs)) H' H' := by
  have cell : ∀ (j : Nat) (c : Cell), (backD ρ ρ' vs)[j]? = some (some c) → (j ∈ vs ∧ ∃ d, c = .val d ∧ ρ[j]? = some (some c)) ∨ (j ∉ vs ∧ ρ'[j]? = some (some c)) := fun j c e => by
    rw [back_get] at e
    by_cases hj : j ∈ vs
    · rw [if_pos hj] at e
      split at e
      · have e' : ρ[j]? = some (some c) := by
          have e2 : ρ.getD j none = some c := Option.some.inj e
          rw [List.getD_eq_getElem?_getD] at e2
          cases q : ρ[j]? with
          | none => rw [q] at e2; cases e2
          | some x => rw [q] at e2; exact congrArg some e2
        obtain ⟨d, hd⟩ := plain_val (List.all_eq_true.mp hp j hj) e'
        exact .inl ⟨hj, d, hd, e'⟩
      · cases e
    · rw [if_neg hj] at e
      exact .inr ⟨hj, e⟩
  have sub : ∀ a, OW B (backD ρ ρ' vs) a → OW B ρ' a := fun a z => z.elim .inl fun ⟨j, c, e, z⟩ => by
    rcases cell j c e with ⟨_, d, rfl, _⟩ | ⟨_, e⟩
    · exact z.elim
    · exact .inr ⟨j, c, e, z⟩
  have m2 := Adv.sub (H := H') sub
  have ll : ∀ (vs : List Nat) (ρ' : DEnv), (backD ρ ρ' vs).length = ρ'.length := by
    intro vs
    induction vs with
    | nil => intro ρ'; rfl
    | cons i r ih => intro ρ'; show (backD ρ (ρ'.set i (ρ.getD i none)) r).length = _; rw [ih, List.length_set]
  refine ⟨⟨by rw [ll, R'.len, hl], R'.trk, fun j c e => ?_, fun j c a e z => ?_, fun j k c c' a ej ek z z' => ?_, R'.keep⟩, m2⟩
  · rcases cell j c e with ⟨_, d, rfl, e1⟩ | ⟨hj, e1⟩
    · obtain ⟨v, h1, h2⟩ := R.val j d e1
      exact ⟨v, h1, Is.mono m2 (Is.mono m h2)⟩
    · obtain ⟨v, h1, h2⟩ := R'.cel j c e1
      exact ⟨v, by rw [← ho j hj]; exact h1, h2.mono m2 (fun _ _ _ e => e) fun _ _ e _ => e⟩
  · rcases cell j c e with ⟨_, d, rfl, e1⟩ | ⟨hj, e1⟩
    · exact z.elim
    · exact R'.adr j c a e1 z
  · rcases cell j c ej with ⟨_, d, rfl, e1⟩ | ⟨hj, e1⟩
    · exact z.elim
    · rcases cell k c' ek with ⟨_, d, rfl, e2⟩ | ⟨hk, e2⟩
      · exact z'.elim
      · exact R'.inj j k c c' a e1 e2 z z'
/-- a container of the callers' (or of no name) is written -/
theorem Rep.writeO (R : Rep B ρ σ H) {p : Addr} {u : HO} (hO : B.O p) (hm : B.mu p ∨ B.H0 p = none) (hu : isTup u = false) : Rep B ρ σ (upd H p u) ∧ Adv (OW B ρ) (OW B ρ) H (upd H p u) := by
  have nt : ∀ b o, H b = some o → isTup o = true → b ≠ p := fun b o e k z => by
    subst z
    obtain ⟨o', e', t'⟩ := R.trk b hO
    rw [e] at e'; cases e'; rw [k] at t'; cases t'
  have m : Adv (OW B ρ) (OW B ρ) H (upd H p u) := by
    refine ⟨fun b o e k => ?_, fun _ _ _ k => k⟩
    have ne : b ≠ p := by
      rintro rfl
      rcases k with k | k
      · exact k (.inl hO)
      · exact nt _ o e k rfl
    rw [upd_ne ne]; exact e
  refine ⟨⟨R.len, fun a h => ?_, fun i c h => ?_, fun i c a h z => ?_, R.inj, fun b o e n => ?_⟩, m⟩
  · by_cases e : a = p
    · subst e; exact ⟨u, upd_same, hu⟩
    · obtain ⟨o, h1, h2⟩ := R.trk a h
      exact ⟨o, by rw [upd_ne e]; exact h1, h2⟩
  · obtain ⟨v, h1, h2⟩ := R.cel i c h
    refine ⟨v, h1, h2.mono m (fun a o z e => ?_) fun a o e k => by rw [upd_ne (nt a o e k)]; exact e⟩
    rw [upd_ne (show a ≠ p from fun q => (R.adr i c a h z).2.1 (q ▸ hO))]
    exact e
  · obtain ⟨⟨o, h1, h2⟩, h3, h4⟩ := R.adr i c a h z
    exact ⟨⟨o, by rw [upd_ne (show a ≠ p from fun q => h3 (q ▸ hO))]; exact h1, h2⟩, h3, h4⟩
  · have ne : b ≠ p := fun z => by
      subst z
      rcases hm with z | z
      · exact n z
      · rw [z] at e; cases e
    rw [upd_ne ne]
    exact R.keep b o e n
end
section
variable {X : Cx} {elt tg iter : Expr} {ifs : List Expr} {scope : Scope} {own : List (Str × Nat)} {pos : Pos} {ti : DTI} {g : DTG} {tt : DTT} {te : DT} {ws vs : List Nat}
theorem upLc {σ : L2.St} {H : Hp} {Q : VK} (hws : ∀ i ∈ ws, i ∈ vs) (h : upF (fLc ti g tt te vs) σ H Q) : tLc (upI ti) (upTg ws g) (upT tt) (upO te) vs σ H Q := by
  obtain ⟨B, ρ, q, R, t, k⟩ := h
  refine ⟨B, ρ, _, R, t, fun ds ρ1 J H1 t1 m1 R1 src D hD => ?_⟩
  obtain ⟨hp1, t1⟩ := t1
  obtain ⟨e1, e2⟩ := R1.entry hD
  obtain ⟨R1', tp1, m1'⟩ := R1.fresh (p := D) (u := .lst []) (d := .list []) hD (.lst .nil)
  refine ⟨fun i m H' => ∃ ρ' acc xs, Rep (B.plus D) ρ' σ H' ∧ Adv (OW B ρ1) (OW (B.plus D) ρ') H1 H' ∧ H' D = some (.lst xs) ∧ IsAll (OW (B.plus D) ρ') H' xs acc ∧ plainC ρ' vs = true ∧ lcGo g tt te vs (ds.drop i) acc ρ' q ∧ i ≤ ds.length ∧ m = ds.length - i,
    ⟨ds.length, ρ1, [], [], R1', m1', upd_same, .nil, hp1, t1, Nat.zero_le _, rfl⟩, ?_⟩
  rintro i m H2 ⟨ρ2, acc, xs, R2, m2, hD2, all, hp2, f2, hi, rfl⟩
  obtain ⟨s1, s2⟩ := src i _ _ m2
  by_cases hlt : i < ds.length
  · obtain ⟨go, yl⟩ := s1 ds[i] (List.getElem?_eq_getElem hlt)
    refine .inr ⟨go, fun H' => ∃ ρ' acc xs, Rep (B.plus D) ρ' σ H' ∧ Adv (OW B ρ1) (OW (B.plus D) ρ') H1 H' ∧ H' D = some (.lst xs) ∧ IsAll (OW (B.plus D) ρ') H' xs acc ∧ plainC ρ' vs = true ∧ lcGo g tt te vs (ds.drop (i + 1)) acc ρ' q,
      fun H' ⟨ρ', acc', xs', a1, a2, a3, a4, a5, a6⟩ => ⟨ds.length - (i + 1), by omega, ρ', acc', xs', a1, a2, a3, a4, a5, a6, hlt, rfl⟩, fun x H3 hy => ?_⟩
    obtain ⟨hs, is⟩ := yl x H3 hy
    have R3 := R2.same hs
    have ms : Adv (OW (B.plus D) ρ2) (OW (B.plus D) ρ2) H2 H3 := .same hs
    have hD3 : H3 D = some (.lst xs) := hs _ _ hD2
    obtain ⟨Rw, mw⟩ := Rep.wipes vs ρ2 σ R3
    have Rr := Rw.re
    rw [List.drop_eq_getElem_cons hlt] at f2
    refine ⟨_, wipeD ρ2 vs, ds[i], _, Rr, is.mono mw, f2, fun ρ3 σ3 t3 y3 m3 R3' => ⟨wipe_only (fun j hj => y3.2 j fun z => hj (hws j z)) y3.1, _, ρ3, _, R3', t3, fun b ρ4 H4 t4 m4 R4 => ?_⟩⟩
    have nD : ¬ owns (wipeD ρ2 vs) D := fun ⟨j, c, e, z⟩ => (Rw.adr j c D e z).2.1 (.inr rfl)
    have agree : ∀ j, j ∉ vs → σ3[j]? = σ[j]? := fun j hj => (y3.2 j fun z => hj (hws j z)).trans (wipe_out hj)
    have slen : σ3.length = σ.length := y3.1.trans (wipe_length _ _)
    -- the turn's end
    have fin : ∀ {ρ5 : DEnv} {H5 : Hp}, Rep ((B.plus D).re (wipeD ρ2 vs) H3) ρ5 σ3 H5 → Adv (OW ((B.plus D).re (wipeD ρ2 vs) H3) (wipeD ρ2 vs)) (OW ((B.plus D).re (wipeD ρ2 vs) H3) ρ5) H3 H5 →
        Rep (B.plus D) (backD ρ2 ρ5 vs) σ H5 ∧ Adv (OW (B.plus D) ρ2) (OW (B.plus D) (backD ρ2 ρ5 vs)) H2 H5 ∧ H5 D = some (.lst xs) ∧ Adv (OW (B.plus D) ρ5) (OW (B.plus D) (backD ρ2 ρ5 vs)) H5 H5 := by
      intro ρ5 H5 R5 m5
      have R5' : Rep (B.plus D) ρ5 σ3 H5 := Rw.unre R5
      have m35 : Adv (OW (B.plus D) ρ2) (OW (B.plus D) ρ5) H3 H5 := mw.trans m5
      obtain ⟨R6, m6⟩ := R3.back R5' m35 hp2 agree slen
      exact ⟨R6, (ms.trans m35).trans m6, R5.keep D _ hD3 nD, m6⟩
    cases b with
    | true =>
      dsimp only
      rw [if_pos rfl] at t4 ⊢
      refine ⟨_, ρ4, _, R4, t4, fun o ρ5 y H5 t5 m5 R5 i5 => ?_⟩
      obtain ⟨e, ρ6, ⟨hl, hp6, t6⟩, ie, R6, m6⟩ := i5.tk R5 t5
      obtain ⟨R7, m7, hD7, m67⟩ := fin R6 (((m3.trans m4).trans m5).trans m6)
      obtain ⟨R8, m8⟩ := R7.writeO (p := D) (u := .lst (xs ++ [y])) (.inr rfl) e2 rfl
      have ie' : Is (OW (B.plus D) ρ6) H5 y e := ie
      refine ⟨xs, hD7, by rw [all.length, sizeLine_eq]; exact hl, backD ρ2 ρ6 vs, acc ++ [e], xs ++ [y], R8, (m2.trans m7).trans m8, upd_same, ?_, hp6, t6⟩
      exact ((all.mono m7).mono m8).append (.cons ((ie'.mono m67).mono m8) .nil)
    | false =>
      dsimp only
      rw [if_neg Bool.false_ne_true] at t4 ⊢
      obtain ⟨R7, m7, hD7, m67⟩ := fin R4 (m3.trans m4)
      exact ⟨backD ρ2 ρ4 vs, acc, xs, R7, m2.trans m7, hD7, all.mono m7, t4.1, t4.2⟩
  · have e : ds.drop i = [] := List.drop_eq_nil_of_le (by omega)
    rw [e] at f2
    exact .inl ⟨s2 (by omega), k _ _ _ _ f2 e1 e2 (m1.trans m2) R2 ⟨_, hD2, .lst all⟩⟩
def dYes : DTT := fun ρ q => q true ρ
theorem dts_nil : PTs X [] (upT dYes) := ⟨fun pins s σ H Q I ⟨B, ρ, q, R, t, k⟩ => pts_nil.run pins s σ H Q I (k _ _ _ t .refl R)⟩
theorem dts_one {c : Expr} {s : DTT} (h : DP X c s) : PTs X [c] (upT s) := pts_one h
theorem dfr_lc (hws : ∀ i ∈ ws, i ∈ own.map (·.2)) (hc : X.calm = true) (hN : X.N.Nodup) (hi : DI X tg iter ti) (ok : BlkOk X.N X.env.scope scope own)
    (hg : ∀ (s : Shared) (H : Hp) (C : Addr) (cl : List (Str × Addr)) (fp : List Addr), DG1 (X.blk s H scope (compEnvC scope cl C X.env) fp) tg ws g) (ht : ∀ (s : Shared) (H : Hp) (C : Addr) (cl : List (Str × Addr)) (fp : List Addr), PTs (X.blk s H scope (compEnvC scope cl C X.env) fp) ifs (upT tt))
    (he : ∀ (s : Shared) (H : Hp) (C : Addr) (cl : List (Str × Addr)) (fp : List Addr), DO (X.blk s H scope (compEnvC scope cl C X.env) fp) elt te) (hs : ∀ x, foldedSetIterable iter X.env x = pure x := by intro _; rfl) :
    DFr X (.ListComp elt [⟨tg, iter, ifs, 0⟩] scope pos) (fLc ti g tt te (own.map (·.2))) := PE.imp (pe_lc hc hN hi ok hg ht he hs) fun _ _ _ h => upLc hws h
theorem ds_setLc {i : Nat} {y : Str} {py spos : Pos} (hws : ∀ i ∈ ws, i ∈ own.map (·.2)) (hc : X.calm = true) (hN : X.N.Nodup) (hy : X.N[i]? = some y) (hyl : X.env.scope.names.lookup y = some .local)
    (hsw : swapsWith (.ListComp elt [⟨tg, iter, ifs, 0⟩] scope pos) (some (.Name y py)) spos.line X.env = pure true) (hi : DI X tg iter ti) (ok : BlkOk X.N X.env.scope scope own)
    (hg : ∀ (s : Shared) (H : Hp) (C : Addr) (cl : List (Str × Addr)) (fp : List Addr), DG1 (X.blk s H scope (compEnvC scope cl C X.env) fp) tg ws g) (ht : ∀ (s : Shared) (H : Hp) (C : Addr) (cl : List (Str × Addr)) (fp : List Addr), PTs (X.blk s H scope (compEnvC scope cl C X.env) fp) ifs (upT tt))
    (he : ∀ (s : Shared) (H : Hp) (C : Addr) (cl : List (Str × Addr)) (fp : List Addr), DO (X.blk s H scope (compEnvC scope cl C X.env) fp) elt te) (hs : ∀ x, foldedSetIterable iter X.env x = pure x := by intro _; rfl) :
    DS X (.Assign [.Name y py] (.ListComp elt [⟨tg, iter, ifs, 0⟩] scope pos) spos) (sSetF i (fLc ti g tt te (own.map (·.2)))) := PS.imp (ps_setLc hc hN hy hyl hsw hi ok hg ht he hs) fun D σ H ⟨B, ρ, E, R, t, k⟩ => by
  refine upLc (Q := fun x H1 => gName i x σ H1 D.nx) hws ⟨B, ρ, _, R, t, fun p d ρ1 H1 t1 n1 n2 m1 R1 tp => ?_⟩
  obtain ⟨R2, m2⟩ := R1.adopt (i := i) tp n1 n2
  exact k.nx _ _ _ (t1 p) (m1.trans m2) R2
end

section
variable {X : Cx} {elt tg iter : Expr} {ifs : List Expr} {scope : Scope} {own : List (Str × Nat)} {pos : Pos} {ti : DTI} {g : DTG} {tt : DTT} {te : DT} {ws vs : List Nat}
/-- a name is given a comprehension's list, which is not written any more -/
def sSetV (i : Nat) (tf : DTF) : DTS := fun E ρ => tf ρ fun d ρ' => E.nx (ρ'.set i (some (.val d)))
theorem ds_setLcV {i : Nat} {y : Str} {py spos : Pos} (hws : ∀ i ∈ ws, i ∈ own.map (·.2)) (hc : X.calm = true) (hN : X.N.Nodup) (hy : X.N[i]? = some y) (hyl : X.env.scope.names.lookup y = some .local)
    (hsw : swapsWith (.ListComp elt [⟨tg, iter, ifs, 0⟩] scope pos) (some (.Name y py)) spos.line X.env = pure true) (hi : DI X tg iter ti) (ok : BlkOk X.N X.env.scope scope own)
    (hg : ∀ (s : Shared) (H : Hp) (C : Addr) (cl : List (Str × Addr)) (fp : List Addr), DG1 (X.blk s H scope (compEnvC scope cl C X.env) fp) tg ws g) (ht : ∀ (s : Shared) (H : Hp) (C : Addr) (cl : List (Str × Addr)) (fp : List Addr), PTs (X.blk s H scope (compEnvC scope cl C X.env) fp) ifs (upT tt))
    (he : ∀ (s : Shared) (H : Hp) (C : Addr) (cl : List (Str × Addr)) (fp : List Addr), DO (X.blk s H scope (compEnvC scope cl C X.env) fp) elt te) (hs : ∀ x, foldedSetIterable iter X.env x = pure x := by intro _; rfl) :
    DS X (.Assign [.Name y py] (.ListComp elt [⟨tg, iter, ifs, 0⟩] scope pos) spos) (sSetV i (fLc ti g tt te (own.map (·.2)))) := PS.imp (ps_setLc hc hN hy hyl hsw hi ok hg ht he hs) fun D σ H ⟨B, ρ, E, R, t, k⟩ => by
  refine upLc (Q := fun x H1 => gName i x σ H1 D.nx) hws ⟨B, ρ, _, R, t, fun p d ρ1 H1 t1 n1 n2 m1 R1 tp => ?_⟩
  have np : ¬ OW B ρ1 p := fun z => z.elim n1 fun ⟨i, c, h, z⟩ => (R1.adr i c p h z).2.1 (.inr rfl)
  obtain ⟨R2, m2⟩ := R1.drop
  obtain ⟨R3, m3⟩ := R2.setVal (i := i) ((tp.mono m2 rfl).is np)
  exact k.nx _ _ _ t1 ((m1.trans m2).trans m3) R3
end

/-! ### lists that are written -/
section
variable {X : Cx} {a b c e : Expr} {es : List Expr} {ta tb tc : DT} {t : DTA} {pos : Pos} {x : Str}
def sAppend (i : Nat) (ta : DT) : DTS := fun E ρ => match ρ[i]? with
  | some (some (.own _ (.list _))) => ta ρ fun o ρ1 => o.tk ρ1 fun d ρ2 => match ρ2[i]? with
    | some (some (.own a (.list ds))) => ds.length < 16777216 ∧ E.nx (ρ2.set i (some (.own a (.list (ds ++ [d])))))
    | _ => False
  | _ => False
theorem Top.lst_of {O : Addr → Prop} {H : Hp} {a : Addr} {ds : List PyData} (h : Top O H a (.list ds)) : ∃ xs, H a = some (.lst xs) ∧ IsAll O H xs ds := by
  obtain ⟨u, e, h⟩ := h
  cases h with
  | lst r => exact ⟨_, e, r⟩
theorem ds_append {i : Nat} {p apos cpos : Pos} (hx : PE X (.Name x p) (tVar i)) (ha : DO X e ta) (hbase : attributeBase (.Name x p) "append" X.env (eval (.Name x p) X.env) = eval (.Name x p) X.env := by rfl)
    (hfew : ((backTo cpos (starEach [e] X.env)).all (fun x => !x.1) && (backToKw cpos (keywordEach [] X.env)).all (fun x => x.1.isSome) && decide (([e] : List Expr).length + ([] : List Keyword).length + (if ([] : List Keyword).isEmpty then 0 else 1) < 30)) = true := by rfl)
    (hline : (apos.endLine == cpos.line) = true := by rfl) (hs : starEach [e] X.env = (false, eval e X.env) :: starEach [] X.env := by rfl) (hplain : (backTo cpos (starEach [] X.env)).any (·.1) = false := by rfl)
    (hsw : swapsWith (.Call (.Attribute (.Name x p) "append" apos) [e] [] cpos) none pos.line X.env = pure false := by rfl) :
    DS X (.Expr (.Call (.Attribute (.Name x p) "append" apos) [e] [] cpos) pos) (sAppend i ta) :=
  PS.imp (ps_expr (pe_bm PySem.F.plainAttrs_list PySem.F.slot_list_append PySem.F.type_list_append mt_append hx (pa_cons ha pa_nil hs) hbase hfew hline hs hplain) hsw) fun D σ H ⟨B, ρ, E, R, t, k⟩ => by
  unfold sAppend at t
  split at t
  · rename_i a0 ds0 h0
    obtain ⟨g1, g2, g3, g4⟩ := R.own i a0 _ h0
    obtain ⟨xs0, hx0, _⟩ := g3.lst_of
    refine ⟨_, g1, .inl ⟨rfl, xs0, SqL.of hx0⟩, B, ρ, _, R, t, fun o ρ1 v H1 t1 m1 R1 i1 => ?_⟩
    obtain ⟨d, ρ2, h2, is, R2, m2⟩ := i1.tk R1 t1
    split at h2
    · rename_i a1 ds hc
      obtain ⟨f1, f2, f3, f4⟩ := R2.own i a1 _ hc
      rw [g1] at f1
      cases f1
      obtain ⟨xs, hx1, all⟩ := f3.lst_of
      obtain ⟨R3, m3⟩ := R2.write (u := .lst (xs ++ [v])) hc (.lst (all.append (.cons is .nil)))
      exact ⟨a0, xs, v, rfl, rfl, hx1, by rw [all.length, sizeLine_eq]; exact h2.1, k.nx _ _ _ h2.2 ((m1.trans m2).trans m3) R3⟩
    · exact h2.elim
  · exact t.elim
def sExtend (i : Nat) (ta : DT) : DTS := fun E ρ => match ρ[i]? with
  | some (some (.own _ (.list _))) => ta ρ fun o ρ1 => o.tk ρ1 fun d ρ2 => match d with
    | .list es => match ρ2[i]? with
      | some (some (.own a (.list ds))) => ds.length + es.length ≤ 16777216 ∧ E.nx (ρ2.set i (some (.own a (.list (ds ++ es)))))
      | _ => False
    | _ => False
  | _ => False
theorem ds_extend {i : Nat} {p apos cpos : Pos} (hx : PE X (.Name x p) (tVar i)) (ha : DO X e ta) (hbase : attributeBase (.Name x p) "extend" X.env (eval (.Name x p) X.env) = eval (.Name x p) X.env := by rfl)
    (hfew : ((backTo cpos (starEach [e] X.env)).all (fun x => !x.1) && (backToKw cpos (keywordEach [] X.env)).all (fun x => x.1.isSome) && decide (([e] : List Expr).length + ([] : List Keyword).length + (if ([] : List Keyword).isEmpty then 0 else 1) < 30)) = true := by rfl)
    (hline : (apos.endLine == cpos.line) = true := by rfl) (hs : starEach [e] X.env = (false, eval e X.env) :: starEach [] X.env := by rfl) (hplain : (backTo cpos (starEach [] X.env)).any (·.1) = false := by rfl)
    (hsw : swapsWith (.Call (.Attribute (.Name x p) "extend" apos) [e] [] cpos) none pos.line X.env = pure false := by rfl) :
    DS X (.Expr (.Call (.Attribute (.Name x p) "extend" apos) [e] [] cpos) pos) (sExtend i ta) :=
  PS.imp (ps_expr (pe_bm PySem.F.plainAttrs_list PySem.F.slot_list_extend PySem.F.type_list_extend mt_extend hx (pa_cons ha pa_nil hs) hbase hfew hline hs hplain) hsw) fun D σ H ⟨B, ρ, E, R, t, k⟩ => by
  unfold sExtend at t
  split at t
  · rename_i a0 ds0 h0
    obtain ⟨g1, g2, g3, g4⟩ := R.own i a0 _ h0
    obtain ⟨xs0, hx0, _⟩ := g3.lst_of
    refine ⟨_, g1, .inl ⟨rfl, xs0, SqL.of hx0⟩, B, ρ, _, R, t, fun o ρ1 v H1 t1 m1 R1 i1 => ?_⟩
    obtain ⟨d, ρ2, h2, is, R2, m2⟩ := i1.tk R1 t1
    split at h2
    · rename_i es
      split at h2
      · rename_i a1 ds hc
        obtain ⟨f1, f2, f3, f4⟩ := R2.own i a1 _ hc
        rw [g1] at f1
        cases f1
        obtain ⟨xs, hx1, all⟩ := f3.lst_of
        obtain ⟨b1, zs, rfl, hb1, all2⟩ := is.lst'
        obtain ⟨R3, m3⟩ := R2.write (u := .lst (xs ++ zs)) hc (.lst (all.append all2))
        exact ⟨a0, b1, xs, zs, rfl, rfl, hx1, hb1, by rw [all.length, all2.length, sizeLine_eq]; exact h2.1, k.nx _ _ _ h2.2 ((m1.trans m2).trans m3) R3⟩
      · exact h2.elim
    · exact h2.elim
  · exact t.elim
/-- xs[i] = e -/
def sSetIx (i : Nat) (ti ta : DT) : DTS := fun E ρ => ta ρ fun o ρ1 => o.tk ρ1 fun d ρ2 => match ρ2[i]? with
  | some (some (.own _ _)) => ti ρ2 fun oi ρ3 => oi.rd ρ3 fun di => match di with
    | .int n => match ρ3[i]? with
      | some (some (.own a (.list ds))) => ∃ j, ixN ds.length n = some j ∧ E.nx (ρ3.set i (some (.own a (.list (ds.set j d)))))
      | _ => False
    | _ => False
  | _ => False
theorem ds_setIx {i : Nat} {ix : Expr} {ti : DT} {p spos : Pos} (hx : PE X (.Name x p) (tVar i)) (hi : DO X ix ti) (ha : DO X e ta) (hs : swapsWithSole [.Subscript (.Name x p) ix spos] e pos.line X.env = pure false := by rfl) (hw : swappedStores [.Subscript (.Name x p) ix spos] e X.env = pure none := by rfl)
    (h1 : (assignEach [.Subscript (.Name x p) ix spos] X.env).map (·.2) = [assign (.Subscript (.Name x p) ix spos) X.env] := by rfl)
    (hga : ∀ v, assign (.Subscript (.Name x p) ix spos) X.env v = (do
      let ov ← holding [v] (eval (.Name x p) X.env)
      let iv ← holding [v, ov] (eval ix X.env)
      standAt spos
      holding [v, ov, iv] (setItem ov iv v)
      release [v, ov, iv] []) := by intro _; rfl) :
    DS X (.Assign [.Subscript (.Name x p) ix spos] e pos) (sSetIx i ti ta) := PS.imp (ps_asg ha (pg_sub hx hi set_list hga) hs hw h1) fun D σ H ⟨B, ρ, E, R, t, k⟩ => by
  refine ⟨B, ρ, _, R, t, fun o ρ1 v H1 t1 m1 R1 i1 => ?_⟩
  obtain ⟨d, ρ2, h2, is, R2, m2⟩ := i1.tk R1 t1
  split at h2
  · rename_i a0 d0 h0
    obtain ⟨g1, g2, g3, g4⟩ := R2.own i a0 _ h0
    refine ⟨_, g1, B, ρ2, _, R2, h2, fun oi ρ3 w H3 t3 m3 R3 i3 => ?_⟩
    obtain ⟨di, h4, r4⟩ := i3.rd R3 t3
    split at h4
    · rename_i n
      split at h4
      · rename_i a1 ds hc
        obtain ⟨j, hj, nx⟩ := h4
        obtain ⟨f1, f2, f3, f4⟩ := R3.own i a1 _ hc
        rw [g1] at f1
        cases f1
        obtain ⟨xs, hx1, all⟩ := f3.lst_of
        obtain ⟨R4, m4⟩ := R3.write (u := .lst (xs.set j v)) hc (.lst (IsAll.set (is.mono m3) j all))
        exact ⟨a0, xs, n, j, rfl, r4.int, hx1, by rw [all.length]; exact hj, k.nx _ _ _ nx (((m1.trans m2).trans m3).trans m4) R4⟩
      · exact h4.elim
    · exact h4.elim
  · exact h2.elim
/-- xs.pop() -/
def dPop (i : Nat) : DT := fun ρ q => match ρ[i]? with
  | some (some (.own a (.list ds))) => ∃ d, ds[ds.length - 1]? = some d ∧ q (.vl d) (ρ.set i (some (.own a (.list ds.dropLast))))
  | _ => False
theorem do_pop {i : Nat} {p apos : Pos} (hx : PE X (.Name x p) (tVar i)) (hbase : attributeBase (.Name x p) "pop" X.env (eval (.Name x p) X.env) = eval (.Name x p) X.env := by rfl) (hline : (apos.endLine == pos.line) = true := by rfl) :
    DO X (.Call (.Attribute (.Name x p) "pop" apos) [] [] pos) (dPop i) := PE.imp (pe_bm0 PySem.F.plainAttrs_list PySem.F.slot_list_pop PySem.F.type_list_pop mt_pop hx hbase hline) fun σ H Q ⟨B, ρ, q, R, t, k⟩ => by
  unfold dPop at t
  split at t
  · rename_i a0 ds h0
    obtain ⟨d, hd, t⟩ := t
    obtain ⟨g1, g2, g3, g4⟩ := R.own i a0 _ h0
    obtain ⟨xs, hx0, all⟩ := g3.lst_of
    obtain ⟨v, hv, iv⟩ := all.get hd
    obtain ⟨R4, m4⟩ := R.write (u := .lst xs.dropLast) h0 (.lst all.dropLast)
    exact ⟨_, g1, .inl ⟨rfl, xs, SqL.of hx0⟩, a0, xs, v, rfl, rfl, hx0, by rw [all.length]; exact hv, k _ _ _ _ t m4 R4 (iv.mono m4)⟩
  · exact t.elim
end

/-! ### a def keeps its promise -/
/-- the names at the entry -/
def startD (m : Bool) (a : Addr) (n : Nat) (ds : List PyData) : DEnv :=
  (match m, ds with
    | true, d :: r => some (.own a d) :: r.map fun d => some (.val d)
    | _, ds => ds.map fun d => some (.val d)) ++ List.replicate (n - ds.length) none
/-- what is wanted at the end -/
def endsD (m : Bool) (a : Addr) (q : PyData → PyData → Prop) : DEnds where
  nx := fun ρ => match m with
    | true => ∃ e, ρ[0]? = some (some (.own a e)) ∧ q .none e
    | false => q .none .none
  rt := fun d ρ => match m with
    | true => ∃ e, ρ[0]? = some (some (.own a e)) ∧ q d e
    | false => q d .none
section
variable {P : Program} {w : World} {K : PySem.W.Frag} {mg : Str → Option Value} {base : Heap} {x qual : Str} {params : Arguments} {body : List Stmt} {scope : Scope} {f : Addr} {fd : FuncData}
theorem vals_get {O : Addr → Prop} {H : Hp} {vs : List V} {ds : List PyData} {n : Nat} (h : IsAll O H vs ds) {i : Nat} {c : Cell} (e : (ds.map (fun d => some (Cell.val d)) ++ List.replicate n none)[i]? = some (some c)) : ∃ d v, c = .val d ∧ vs[i]? = some v ∧ Is O H v d ∧ i < ds.length := by
  by_cases hi : i < ds.length
  · rw [List.getElem?_append_left (by rw [List.length_map]; exact hi), List.getElem?_map, List.getElem?_eq_getElem hi] at e
    cases e
    obtain ⟨v, h1, h2⟩ := h.get (List.getElem?_eq_getElem hi)
    exact ⟨_, v, rfl, h1, h2, hi⟩
  · rw [List.getElem?_append_right (by rw [List.length_map]; omega), List.getElem?_replicate] at e
    split at e <;> cases e
theorem start_get {N : List Str} {vs : List V} {i : Nat} {v : V} (h : vs[i]? = some v) : (L2.start N vs)[i]? = some (some v) := by
  have hi : i < vs.length := (List.getElem?_eq_some_iff.mp h).1
  unfold L2.start
  rw [List.getElem?_append_left (by rw [List.length_map]; exact hi), List.getElem?_map, h]
  rfl
/-- a promise, told at the entry -/
theorem spD_up {N ps : List Str} {n : Nat} {m : Bool} {F : DF} {t : DTS} (S : FnScope N ps scope) (hn : ps.length = n)
    (hF : ∀ ds q a, ds.length = n → F ds q → t (endsD m a q) (startD m a N.length ds)) {vs : List V} {H : Hp} {Q : VK} {E : XK} (h : spD m n F vs H Q E) : upS t { nx := fun _ H' => Q .non H', rt := Q } (L2.start N vs) H := by
  have hpl : ps.length ≤ N.length := by
    have := congrArg List.length S.pre
    rw [List.length_take] at this
    omega
  obtain ⟨hl, O, ds, q, trk, hq, h⟩ := h
  cases m with
  | false =>
    rw [if_neg Bool.false_ne_true] at h
    obtain ⟨all, hQ⟩ := h
    have dl : ds.length = n := by rw [← all.length, hl]
    have e0 : startD false 0 N.length ds = ds.map (fun d => some (Cell.val d)) ++ List.replicate (N.length - ds.length) none := by cases ds <;> rfl
    have t0 := hF ds q 0 dl hq
    rw [e0] at t0
    have nown : ∀ b, ¬ owns (ds.map (fun d => some (Cell.val d)) ++ List.replicate (N.length - ds.length) none) b := fun b ⟨i, c, e, z⟩ => by
      obtain ⟨d, v, rfl, _⟩ := vals_get all e
      exact z
    refine ⟨⟨O, H, fun _ => False⟩, _, endsD false 0 q, ⟨?_, trk, fun i c e => ?_, fun i c b e z => ?_, fun i j c c' b e e' z z' => ?_, fun b o e _ => e⟩, t0, ?_⟩
    · rw [List.length_append, List.length_map, List.length_replicate]
      unfold L2.start
      rw [List.length_append, List.length_map, List.length_replicate, hl, dl]
    · obtain ⟨d, v, rfl, h1, h2, _⟩ := vals_get all e
      exact ⟨v, start_get h1, h2.mono (Adv.sub fun b z => z.elim id fun z => (nown b z).elim)⟩
    · exact (nown b ⟨i, c, e, z⟩).elim
    · exact (nown b ⟨i, c, e, z⟩).elim
    · refine ⟨fun ρ' σ' H' z ad R' => ?_, fun d ρ' σ' v H' z ad R' is => ?_, fun _ _ _ z => z.elim, fun _ _ _ z => z.elim⟩
      · exact hQ _ _ _ _ z (fun b o e => R'.keep b o e id) .non
      · exact hQ _ _ _ _ z (fun b o e => R'.keep b o e id) (is.mono (Adv.sub fun b z => .inl z))
  | true =>
    rw [if_pos rfl] at h
    obtain ⟨a, ws, d0, es, rfl, rfl, oa, top, all, hQ⟩ := h
    have dl : (d0 :: es).length = n := by rw [← hl, List.length_cons, List.length_cons, all.length]
    have t0 := hF (d0 :: es) q a dl hq
    have e0 : startD true a N.length (d0 :: es) = some (Cell.own a d0) :: (es.map (fun d => some (Cell.val d)) ++ List.replicate (N.length - (d0 :: es).length) none) := rfl
    rw [e0] at t0
    have cell : ∀ (i : Nat) (c : Cell), (some (Cell.own a d0) :: (es.map (fun d => some (Cell.val d)) ++ List.replicate (N.length - (d0 :: es).length) none))[i]? = some (some c) → (i = 0 ∧ c = .own a d0) ∨ ∃ d v, c = .val d ∧ (V.ref a :: ws)[i]? = some v ∧ Is O H v d := fun i c e => by
      cases i with
      | zero => cases e; exact .inl ⟨rfl, rfl⟩
      | succ i =>
        obtain ⟨d, v, h1, h2, h3, _⟩ := vals_get all (show _ = some (some c) from e)
        exact .inr ⟨d, v, h1, h2, h3⟩
    have ow : ∀ b, OW ⟨fun b => O b ∧ b ≠ a, H, (· = a)⟩ (some (Cell.own a d0) :: (es.map (fun d => some (Cell.val d)) ++ List.replicate (N.length - (d0 :: es).length) none)) b → O b := fun b z => by
      rcases z with z | ⟨i, c, e, z⟩
      · exact z.1
      · rcases cell i c e with ⟨_, rfl⟩ | ⟨d, v, rfl, _⟩
        · cases (show b = a from z); exact oa
        · exact z.elim
    have mo : Adv O (OW ⟨fun b => O b ∧ b ≠ a, H, (· = a)⟩ (some (Cell.own a d0) :: (es.map (fun d => some (Cell.val d)) ++ List.replicate (N.length - (d0 :: es).length) none))) H H := Adv.sub ow
    refine ⟨⟨fun b => O b ∧ b ≠ a, H, (· = a)⟩, _, endsD true a q, ⟨?_, fun b z => trk b z.1, fun i c e => ?_, fun i c b e z => ?_, fun i j c c' b e e' z z' => ?_, fun b o e _ => e⟩, t0, ?_⟩
    · rw [List.length_cons, List.length_append, List.length_map, List.length_replicate]
      unfold L2.start
      rw [List.length_append, List.length_map, List.length_replicate, hl]
      have := dl
      rw [List.length_cons] at this ⊢
      omega
    · rcases cell i c e with ⟨rfl, rfl⟩ | ⟨d, v, rfl, h1, h2⟩
      · exact ⟨.ref a, start_get rfl, rfl, top.mono mo rfl⟩
      · exact ⟨v, start_get h1, h2.mono mo⟩
    · rcases cell i c e with ⟨rfl, rfl⟩ | ⟨d, v, rfl, h1, h2⟩
      · cases (show b = a from z)
        exact ⟨trk a oa, fun z => z.2 rfl, .inl rfl⟩
      · exact z.elim
    · rcases cell i c e with ⟨rfl, rfl⟩ | ⟨d, v, rfl, h1, h2⟩
      · rcases cell j c' e' with ⟨rfl, rfl⟩ | ⟨d, v, rfl, h1, h2⟩
        · rfl
        · exact z'.elim
      · exact z.elim
    · have fin : ∀ {d e : PyData} {ρ' : DEnv} {σ' : L2.St} {v : V} {H' : Hp}, ρ'[0]? = some (some (.own a e)) → q d e → Rep ⟨fun b => O b ∧ b ≠ a, H, (· = a)⟩ ρ' σ' H' → Is (OW ⟨fun b => O b ∧ b ≠ a, H, (· = a)⟩ ρ') H' v d → Q v H' := by
        intro d e ρ' σ' v H' e1 hq R' is
        obtain ⟨g1, g2, g3, g4⟩ := R'.own 0 a e e1
        have m : Adv (OW ⟨fun b => O b ∧ b ≠ a, H, (· = a)⟩ ρ') O H' H' := Adv.sub fun b z => by
          by_cases h : b = a
          · subst h; exact .inr ⟨0, _, e1, rfl⟩
          · exact .inl ⟨z, h⟩
        exact hQ _ _ _ _ hq (fun b o e n => R'.keep b o e n) (g3.mono m rfl) (is.mono m)
      refine ⟨fun ρ' σ' H' z ad R' => ?_, fun d ρ' σ' v H' z ad R' is => ?_, fun _ _ _ z => z.elim, fun _ _ _ z => z.elim⟩
      · obtain ⟨e, h1, h2⟩ := z
        exact fin h1 h2 R' .non
      · obtain ⟨e, h1, h2⟩ := z
        exact fin h1 h2 R' is
theorem okD {N ps : List Str} {k n : Nat} {m : Bool} {F : DF} {t : DTS} (Fn : FunD K x qual params body scope [] [] f fd) (S : FnScope N ps scope) (hn : ps.length = n)
    (hb : ∀ (cdv : Value) (A : Around) (outer : List Env) (s : Shared) (H : Hp) (E : XK), Room k (A.deeper (envOfC qual scope s.heap.objs.size f cdv)) → DSs (cxOf CX0 P w K mg base N qual scope f cdv A outer s H E).nox body t)
    (hF : ∀ ds q a, ds.length = n → F ds q → t (endsD m a q) (startD m a N.length ds)) : FnOk P w K mg base CX0 (k + 1) f fd ps (spD m n F) := by
  exact Fn.ok S (fun vs H Q E h => h.1.trans hn.symm) fun cdv A outer s H vs Q E hr h => ⟨upS t, PSs.nox (hb cdv A outer s H E hr), spD_up S hn hF h⟩
end
end DL
namespace DL
open PySem PySem.Spec PyProof.Rows L2

/-! ### several names at once, new containers among the values -/
inductive FV where
  | vl (d : PyData)
  | fr (d : PyData)
abbrev DTAF := DEnv → (List FV → DEnv → Prop) → Prop
inductive FAll (O : Addr → Prop) (H : Hp) : List Addr → List V → List FV → Prop
  | nil : FAll O H [] [] []
  | vl {ps : List Addr} {v : V} {vs : List V} {d : PyData} {fs : List FV} : Is O H v d → FAll O H ps vs fs → FAll O H ps (v :: vs) (.vl d :: fs)
  | fr {p : Addr} {ps : List Addr} {vs : List V} {d : PyData} {fs : List FV} : Top O H p d → FAll O H ps vs fs → FAll O H (p :: ps) (.ref p :: vs) (.fr d :: fs)
abbrev Bs.these (B : Bs) (ps : List Addr) : Bs := B.more (· ∈ ps)
theorem FAll.mono {O O' : Addr → Prop} {H : Hp} {ps : List Addr} {vs : List V} {fs : List FV} (m : Adv O O' H H) (h : FAll O H ps vs fs) : FAll O' H ps vs fs := by
  induction h with
  | nil => exact .nil
  | vl i _ ih => exact .vl (i.mono m) ih
  | fr t _ ih => exact .fr (t.mono m rfl) ih
def upAF (t : DTAF) : TA := fun σ H Q => ∃ B ρ q, Rep B ρ σ H ∧ t ρ q ∧ ∀ fs ρ' vs ps H', q fs ρ' → ps.Nodup → (∀ p ∈ ps, ¬ B.O p ∧ (B.mu p ∨ B.H0 p = none)) → Adv (OW B ρ) (OW (B.these ps) ρ') H H' → Rep (B.these ps) ρ' σ H' → FAll (OW (B.these ps) ρ') H' ps vs fs → Q vs H'
abbrev DAF (X : Cx) (es : List Expr) (t : DTAF) : Prop := PA X es (upAF t)
theorem Bs.these_nil (B : Bs) : B.these [] = B := by
  cases B
  simp [Bs.more]
theorem Bs.these_cons (B : Bs) (p : Addr) (ps : List Addr) : (B.plus p).these ps = B.these (p :: ps) := by
  cases B
  simp only [Bs.more, Bs.mk.injEq, and_true, true_and]
  funext b
  simp [or_assoc]
theorem Bs.these_cons' (B : Bs) (p : Addr) (ps : List Addr) : (B.these ps).plus p = B.these (p :: ps) := by
  cases B
  simp only [Bs.more, Bs.mk.injEq, and_true, true_and]
  funext b
  simp only [List.mem_cons, eq_iff_iff]
  constructor
  · rintro ((h | h) | h)
    · exact .inl h
    · exact .inr (.inr h)
    · exact .inr (.inl h)
  · rintro (h | h | h)
    · exact .inl (.inl h)
    · exact .inr h
    · exact .inl (.inr h)
section
variable {X : Cx} {a b c e : Expr} {es : List Expr} {ta tb tc : DT} {t : DTAF} {tf : DTF} {pos : Pos} {x y z : Str}
def afNil : DTAF := fun ρ q => q [] ρ
def afV (ta : DT) (tr : DTAF) : DTAF := fun ρ q => ta ρ fun o ρ1 => o.tk ρ1 fun d ρ2 => tr ρ2 fun fs ρ3 => q (.vl d :: fs) ρ3
def afF (tf : DTF) (tr : DTAF) : DTAF := fun ρ q => tf ρ fun d ρ1 => tr ρ1 fun fs ρ2 => q (.fr d :: fs) ρ2
theorem daf_nil : DAF X [] afNil := PA.imp pa_nil fun σ H Q ⟨B, ρ, q, R, t, k⟩ => k _ _ _ [] _ t .nil (fun _ h => by cases h) (by rw [B.these_nil]; exact .refl) (by rw [B.these_nil]; exact R) .nil
theorem daf_v (ha : DO X e ta) (hr : DAF X es t) (hs : starEach (e :: es) X.env = (false, eval e X.env) :: starEach es X.env := by rfl) : DAF X (e :: es) (afV ta t) := PA.imp (pa_cons ha hr hs) fun σ H Q ⟨B, ρ, q, R, t, k⟩ => by
  refine ⟨B, ρ, _, R, t, fun o ρ1 v1 H1 t1 m1 R1 i1 => ?_⟩
  obtain ⟨d, ρ2, h2, is, R2, m2⟩ := i1.tk R1 t1
  refine ⟨B, ρ2, _, R2, h2, fun fs ρ3 vs ps H3 t3 nd hp m3 R3 all => ?_⟩
  exact k _ _ _ _ _ t3 nd hp ((m1.trans m2).trans m3) R3 (.vl (is.mono m3) all)
theorem daf_f (ha : DFr X e tf) (hr : DAF X es t) (hs : starEach (e :: es) X.env = (false, eval e X.env) :: starEach es X.env := by rfl) : DAF X (e :: es) (afF tf t) := PA.imp (pa_cons ha hr hs) fun σ H Q ⟨B, ρ, q, R, t, k⟩ => by
  refine ⟨B, ρ, _, R, t, fun p d ρ1 H1 t1 n1 n2 m1 R1 tp => ?_⟩
  refine ⟨(B.plus p).re ρ1 H1, ρ1, _, R1.re, t1, fun fs ρ2 vs ps H2 t2 nd hp m2 R2 all => ?_⟩
  have np : ¬ owns ρ1 p := fun ⟨i, c, h, z⟩ => (R1.adr i c p h z).2.1 (.inr rfl)
  obtain ⟨u, hu, hh⟩ := id tp
  have ep : H2 p = H1 p := (R2.keep p u hu np).trans hu.symm
  have R2' : Rep (B.these (p :: ps)) ρ2 σ H2 := by
    rw [← B.these_cons]
    exact R1.unre R2
  have m2' : Adv (OW (B.plus p) ρ1) (OW (B.these (p :: ps)) ρ2) H1 H2 := by
    rw [← B.these_cons]
    exact m2
  have all' : FAll (OW (B.these (p :: ps)) ρ2) H2 ps vs fs := by
    rw [← B.these_cons]
    exact all
  refine k _ _ _ _ _ t2 (List.nodup_cons.mpr ⟨fun z => (hp p z).1 (.inr rfl), nd⟩) (fun q hq => ?_) (m1.trans m2') R2' (.fr (tp.mono m2' ep) all')
  rcases List.mem_cons.mp hq with z | z
  · rw [z]; exact ⟨n1, n2⟩
  · obtain ⟨h1, h2⟩ := hp q z
    exact ⟨fun y => h1 (.inl y), R1.unre_mu h2⟩
/-- a name is given it -/
def FV.put (i : Nat) (f : FV) (ρ : DEnv) (k : DEnv → Prop) : Prop := match f with
  | .vl d => k (ρ.set i (some (.val d)))
  | .fr d => ∀ p, k (ρ.set i (some (.own p d)))
theorem FAll.put {B : Bs} {ρ : DEnv} {σ : L2.St} {H : Hp} {ps : List Addr} {v : V} {vs : List V} {f : FV} {fs : List FV} {i : Nat} {k : DEnv → Prop} (R : Rep (B.these ps) ρ σ H) (nd : ps.Nodup) (hp : ∀ p ∈ ps, ¬ B.O p ∧ (B.mu p ∨ B.H0 p = none))
    (all : FAll (OW (B.these ps) ρ) H ps (v :: vs) (f :: fs)) (h : f.put i ρ k) : ∃ ps' ρ', k ρ' ∧ Rep (B.these ps') ρ' (σ.set i (some v)) H ∧ Adv (OW (B.these ps) ρ) (OW (B.these ps') ρ') H H ∧ ps'.Nodup ∧ (∀ p ∈ ps', ¬ B.O p ∧ (B.mu p ∨ B.H0 p = none)) ∧ FAll (OW (B.these ps') ρ') H ps' vs fs := by
  cases all with
  | vl is all =>
    obtain ⟨R2, m⟩ := R.setVal (i := i) is
    exact ⟨ps, _, h, R2, m, nd, hp, all.mono m⟩
  | @fr p ps' _ d _ top all =>
    have h' := h p
    obtain ⟨n1, nd'⟩ := List.nodup_cons.mp nd
    rw [← B.these_cons'] at R top all ⊢
    obtain ⟨R2, m⟩ := R.adopt (i := i) top (fun z => z.elim (hp p (List.mem_cons_self ..)).1 n1) (hp p (List.mem_cons_self ..)).2
    exact ⟨ps', _, h', R2, m, nd', fun q hq => hp q (List.mem_cons_of_mem _ hq), all.mono m⟩
def sPar (i j : Nat) (t : DTAF) : DTS := fun E ρ => t ρ fun fs ρ1 => match fs with
  | [f, g] => f.put i ρ1 fun ρ2 => g.put j ρ2 E.nx
  | _ => False
def sPar3 (i j l : Nat) (t : DTAF) : DTS := fun E ρ => t ρ fun fs ρ1 => match fs with
  | [f, g, h] => f.put i ρ1 fun ρ2 => g.put j ρ2 fun ρ3 => h.put l ρ3 E.nx
  | _ => False
theorem Rep.these_nil {B : Bs} {ρ : DEnv} {σ : L2.St} {H : Hp} {ps : List Addr} (R : Rep (B.these ps) ρ σ H) (h : ps = []) : Rep B ρ σ H := by
  subst h
  rw [B.these_nil] at R
  exact R
theorem ds_par {i j : Nat} {px py pt : Pos} {kt k2 pt2} (hc : X.calm = true) (hN : X.N.Nodup) (hi : X.N[i]? = some x) (hj : X.N[j]? = some y) (hij : i ≠ j)
    (hx : X.env.scope.names.lookup x = some .local) (hy : X.env.scope.names.lookup y = some .local) (ha : DAF X [a, b] t)
    (hw : swappedStores [.Tuple [.Name x px, .Name y py] kt pt] (.Tuple [a, b] k2 pt2) X.env = pure (some [x, y]))
    (hs : swapsWithSole [.Tuple [.Name x px, .Name y py] kt pt] (.Tuple [a, b] k2 pt2) pos.line X.env = pure false := by rfl) :
    DS X (.Assign [.Tuple [.Name x px, .Name y py] kt pt] (.Tuple [a, b] k2 pt2) pos) (sPar i j t) := PS.imp (ps_par hc hN hi hj hij hx hy ha hw hs) fun D σ H ⟨B, ρ, E, R, t, k⟩ => by
  refine ⟨B, ρ, _, R, t, fun fs ρ1 vs ps H1 t1 nd hp m1 R1 all => ?_⟩
  split at t1
  · rename_i f g
    obtain ⟨v, vs1, rfl⟩ : ∃ v r, vs = v :: r := by cases all <;> exact ⟨_, _, rfl⟩
    obtain ⟨ps2, ρ2, t2, R2, m2, nd2, hp2, all2⟩ := FAll.put R1 nd hp all t1
    obtain ⟨w, vs2, rfl⟩ : ∃ v r, vs1 = v :: r := by cases all2 <;> exact ⟨_, _, rfl⟩
    obtain ⟨ps3, ρ3, t3, R3, m3, nd3, hp3, all3⟩ := FAll.put R2 nd2 hp2 all2 t2
    cases all3
    rw [B.these_nil] at R3 m3
    exact ⟨v, w, rfl, k.nx _ _ _ t3 ((m1.trans m2).trans m3) R3⟩
  · exact t1.elim
theorem ds_par3 {i j l : Nat} {px py pz pt : Pos} {kt k2 pt2} (hc : X.calm = true) (hN : X.N.Nodup) (hi : X.N[i]? = some x) (hj : X.N[j]? = some y) (hl : X.N[l]? = some z) (hij : i ≠ j) (hil : i ≠ l) (hjl : j ≠ l)
    (hx : X.env.scope.names.lookup x = some .local) (hy : X.env.scope.names.lookup y = some .local) (hz : X.env.scope.names.lookup z = some .local) (ha : DAF X [a, b, c] t)
    (hw : swappedStores [.Tuple [.Name x px, .Name y py, .Name z pz] kt pt] (.Tuple [a, b, c] k2 pt2) X.env = pure (some [x, y, z]))
    (hs : swapsWithSole [.Tuple [.Name x px, .Name y py, .Name z pz] kt pt] (.Tuple [a, b, c] k2 pt2) pos.line X.env = pure false := by rfl) :
    DS X (.Assign [.Tuple [.Name x px, .Name y py, .Name z pz] kt pt] (.Tuple [a, b, c] k2 pt2) pos) (sPar3 i j l t) := PS.imp (ps_par3 hc hN hi hj hl hij hil hjl hx hy hz ha hw hs) fun D σ H ⟨B, ρ, E, R, t, k⟩ => by
  refine ⟨B, ρ, _, R, t, fun fs ρ1 vs ps H1 t1 nd hp m1 R1 all => ?_⟩
  split at t1
  · rename_i f g h
    obtain ⟨v, vs1, rfl⟩ : ∃ v r, vs = v :: r := by cases all <;> exact ⟨_, _, rfl⟩
    obtain ⟨ps2, ρ2, t2, R2, m2, nd2, hp2, all2⟩ := FAll.put R1 nd hp all t1
    obtain ⟨w, vs2, rfl⟩ : ∃ v r, vs1 = v :: r := by cases all2 <;> exact ⟨_, _, rfl⟩
    obtain ⟨ps3, ρ3, t3, R3, m3, nd3, hp3, all3⟩ := FAll.put R2 nd2 hp2 all2 t2
    obtain ⟨u, vs3, rfl⟩ : ∃ v r, vs2 = v :: r := by cases all3 <;> exact ⟨_, _, rfl⟩
    obtain ⟨ps4, ρ4, t4, R4, m4, nd4, hp4, all4⟩ := FAll.put R3 nd3 hp3 all3 t3
    cases all4
    rw [B.these_nil] at R4 m4
    exact ⟨v, w, u, rfl, k.nx _ _ _ t4 (((m1.trans m2).trans m3).trans m4) R4⟩
  · exact t1.elim

/-! ### dicts -/
def dLook (es : List (PyData × PyData)) (k : PyData → Bool) : Option PyData := (es.find? fun e => k e.1).map (·.2)
/-- a key that may stand in a dict of ints and texts -/
def keyB : PyData → PyData → Bool
  | .int i, .int j => i == j
  | .str x, .str y => decide (x = y)
  | _, _ => false
def isKey : PyData → Bool
  | .int _ => true
  | .str _ => true
  | _ => false
theorem key_of_is {O : Addr → Prop} {H : Hp} {v : V} {d : PyData} (h : RdB O H v d) (k : isKey d = true) : ∃ q, v = kV q ∧ d = kD q := by
  cases d with
  | int i => exact ⟨.inl i, h.int, rfl⟩
  | str x => exact ⟨.inr x, h.str, rfl⟩
  | _ => cases k
theorem keyB_kD (a b : Key) : keyB (kD a) (kD b) = decide (a = b) := by
  cases a with
  | inl i =>
    cases b with
    | inl j =>
      show (i == j) = decide ((Sum.inl i : Key) = Sum.inl j)
      exact (key_ll i j).symm
    | inr y => exact (key_lr i y).symm
  | inr x =>
    cases b with
    | inl j => exact (key_rl x j).symm
    | inr y =>
      show decide (x = y) = decide ((Sum.inr x : Key) = Sum.inr y)
      exact (key_rr x y).symm
/-- what stands under a key -/
def dGetD (es : List (PyData × PyData)) (k : PyData) : Option PyData := dLook es fun e => keyB e k
def dPutD (es : List (PyData × PyData)) (k d : PyData) : List (PyData × PyData) :=
  if (es.any fun e => keyB e.1 k) = true then es.map (fun e => if keyB e.1 k = true then (e.1, d) else e) else es ++ [(k, d)]
theorem IsK.look {O : Addr → Prop} {H : Hp} {kvs : List (Key × V)} {es : List (PyData × PyData)} (h : IsK O H kvs es) (q : Key) :
    (∃ v d, valV kvs q = some v ∧ dGetD es (kD q) = some d ∧ Is O H v d) ∨ (valV kvs q = none ∧ dGetD es (kD q) = none) := by
  induction kvs generalizing es with
  | nil => cases h; exact .inr ⟨rfl, rfl⟩
  | cons p r ih =>
    cases h with
    | @consK k v _ d ds i t =>
      by_cases e : k = q
      · refine .inl ⟨v, d, valV_pos (p := (k, v)) e, ?_, i⟩
        show ((List.find? (fun e => keyB e.1 (kD q)) ((kD k, d) :: ds)).map (·.2)) = _
        rw [List.find?_cons_of_pos (by show keyB (kD k) (kD q) = true; rw [keyB_kD]; exact decide_eq_true e)]
        rfl
      · have e1 : valV ((k, v) :: r) q = valV r q := valV_neg (p := (k, v)) e
        have e2 : dGetD ((kD k, d) :: ds) (kD q) = dGetD ds (kD q) := by
          show ((List.find? (fun e => keyB e.1 (kD q)) ((kD k, d) :: ds)).map (·.2)) = _
          rw [List.find?_cons_of_neg (by show ¬ keyB (kD k) (kD q) = true; rw [keyB_kD]; simpa using e)]
          rfl
        rw [e1, e2]
        exact ih t
theorem IsK.any {O : Addr → Prop} {H : Hp} {q : Key} : ∀ {kvs : List (Key × V)} {es : List (PyData × PyData)}, IsK O H kvs es → (kvs.any fun kv => decide (kv.1 = q)) = es.any fun e => keyB e.1 (kD q)
  | _, _, .nilK => rfl
  | _, _, .consK i t => by
    rw [List.any_cons, List.any_cons, keyB_kD, IsK.any t]
theorem IsK.map {O : Addr → Prop} {H : Hp} {q : Key} {v : V} {d : PyData} (h : Is O H v d) : ∀ {kvs : List (Key × V)} {es : List (PyData × PyData)}, IsK O H kvs es →
    IsK O H (kvs.map fun kv => if kv.1 = q then (kv.1, v) else kv) (es.map fun e => if keyB e.1 (kD q) = true then (e.1, d) else e)
  | _, _, .nilK => .nilK
  | _, _, .consK (k := k) i t => by
    rw [List.map_cons, List.map_cons]
    by_cases e : k = q
    · rw [if_pos e, if_pos (by show keyB (kD k) (kD q) = true; rw [keyB_kD]; exact decide_eq_true e)]
      exact .consK h (IsK.map h t)
    · rw [if_neg e, if_neg (by show ¬ keyB (kD k) (kD q) = true; rw [keyB_kD]; simpa using e)]
      exact .consK i (IsK.map h t)
theorem IsK.append {O : Addr → Prop} {H : Hp} : ∀ {xs ys : List (Key × V)} {ds es : List (PyData × PyData)}, IsK O H xs ds → IsK O H ys es → IsK O H (xs ++ ys) (ds ++ es)
  | _, _, _, _, .nilK, s => s
  | _, _, _, _, .consK r t, s => .consK r (IsK.append t s)
theorem IsK.put {O : Addr → Prop} {H : Hp} {kvs : List (Key × V)} {es : List (PyData × PyData)} (h : IsK O H kvs es) (q : Key) {v : V} {d : PyData} (i : Is O H v d) : IsK O H (putK kvs q v) (dPutD es (kD q) d) := by
  unfold putK dPutD
  rw [h.any (q := q)]
  split
  · exact h.map i
  · exact h.append (.consK i .nilK)
theorem IsK.length {O : Addr → Prop} {H : Hp} : ∀ {kvs : List (Key × V)} {es : List (PyData × PyData)}, IsK O H kvs es → kvs.length = es.length
  | _, _, .nilK => rfl
  | _, _, .consK _ t => congrArg Nat.succ (IsK.length t)
end
end DL
namespace DL
open PySem PySem.Spec PyProof.Rows L2
section
variable {O : Addr → Prop} {H : Hp} {v : V}
/-- a dict of ints and texts: not one whose keys are tuples -/
def kDict : List (PyData × PyData) → Bool
  | (.none, _) :: _ => false
  | _ => true
theorem no_none {k : Key} : kD k ≠ .none := by cases k <;> intro e <;> cases e
theorem IsK.kd {kvs : List (Key × V)} {es : List (PyData × PyData)} (h : IsK O H kvs es) : kDict es = true := by
  cases h with
  | nilK => rfl
  | consK i t =>
    rename_i k _ _ _ _
    cases k <;> rfl
theorem RdB.dic {es : List (PyData × PyData)} (h : RdB O H v (.dict es)) (kd : kDict es = true) : ∃ a kvs, v = .ref a ∧ Rd H a (.dK kvs) ∧ IsK O H kvs es := by
  rcases h with h | ⟨a, rfl, u, e, h⟩
  · cases h with
    | dK n r t => exact ⟨_, _, rfl, r, t⟩
    | dT n r t => cases kd
  · cases h with
    | dK t => exact ⟨_, _, rfl, .inl e, t⟩
    | dT t => cases kd
theorem Top.dic {a : Addr} {es : List (PyData × PyData)} (h : Top O H a (.dict es)) (kd : kDict es = true) : ∃ kvs, H a = some (.dK kvs) ∧ IsK O H kvs es := by
  obtain ⟨u, e, h⟩ := h
  cases h with
  | dK t => exact ⟨_, e, t⟩
  | dT t => cases kd
end
section
variable {X : Cx} {a b c e i : Expr} {es : List Expr} {ta tb tc tk tv : DT} {t : DTA} {pos : Pos} {x : Str}
def gDGet : D2 := fun d e q => match d with
  | .dict es => kDict es = true ∧ isKey e = true ∧ ∃ r, dGetD es e = some r ∧ q r
  | _ => False
theorem dget_of {O : Addr → Prop} {H : Hp} {y : V} {a : Addr} {kvs : List (Key × V)} {es : List (PyData × PyData)} {e : PyData} (r : Rd H a (.dK kvs)) (t : IsK O H kvs es) (hy : RdB O H y e) (ke : isKey e = true) :
    (∃ v d, DGet H a y (some v) ∧ dGetD es e = some d ∧ Is O H v d) ∨ (DGet H a y none ∧ dGetD es e = none) := by
  obtain ⟨k, rfl, rfl⟩ := key_of_is hy ke
  rcases t.look k with ⟨v, d, h1, h2, h3⟩ | ⟨h1, h2⟩
  · exact .inl ⟨v, d, .inl ⟨kvs, k, r, rfl, h1.symm⟩, h2, h3⟩
  · exact .inr ⟨.inl ⟨kvs, k, r, rfl, h1.symm⟩, h2⟩
theorem fit_dget : Fit2 (fun x y H Q => ∃ a v, x = .ref a ∧ DGet H a y (some v) ∧ Q v H) gDGet := fun O H x y d e q Q _ hx hy h k => by
  unfold gDGet at h
  split at h
  · obtain ⟨kd, ke, r, h1, h2⟩ := h
    obtain ⟨a, kvs, rfl, r1, t1⟩ := hx.dic kd
    rcases dget_of r1 t1 hy ke with ⟨v, d, g1, g2, g3⟩ | ⟨g1, g2⟩
    · rw [h1] at g2
      cases g2
      exact ⟨a, v, rfl, g1, k _ _ _ h2 (Same.refl _) g3⟩
    · rw [h1] at g2; cases g2
  · exact h.elim
theorem do_dget (hu : X.A.units + 1 < cLine) (ha : DO X a ta) (hb : DO X b tb) (hs : NoSl b) : DO X (.Subscript a b pos) (d2 gDGet ta tb) := PE.imp (pe_dget hu ha hb hs) fun _ _ _ h => up2 fit_dget h
def gDIn (f : Bool → Bool) : D2 := fun e d q => match d with
  | .dict es => kDict es = true ∧ isKey e = true ∧ q (.bool (f (dGetD es e).isSome))
  | _ => False
theorem fit_din {f : Bool → Bool} : Fit2 (fun y x H Q => ∃ a o, x = .ref a ∧ DGet H a y o ∧ Q (.bl (f o.isSome)) H) (gDIn f) := fun O H y x e d q Q _ hy hx h k => by
  unfold gDIn at h
  split at h
  · obtain ⟨kd, ke, h2⟩ := h
    obtain ⟨a, kvs, rfl, r1, t1⟩ := hx.dic kd
    rcases dget_of r1 t1 hy ke with ⟨v, d, g1, g2, g3⟩ | ⟨g1, g2⟩
    · rw [g2] at h2
      exact ⟨a, some v, rfl, g1, k _ _ _ h2 (Same.refl _) (.bl _)⟩
    · rw [g2] at h2
      exact ⟨a, none, rfl, g1, k _ _ _ h2 (Same.refl _) (.bl _)⟩
  · exact h.elim
theorem do_din (hu : X.A.units + 1 < cLine) (ha : DO X a ta) (hb : DO X b tb) (hm : behindInMarks .In b = false := by rfl) : DO X (.Compare a [.In] [b] pos) (d2 (gDIn id) ta tb) := PE.imp (pe_cmp (pc_din hu ha hb) hm) fun _ _ _ h => up2 fit_din h
theorem do_dnotin (hu : X.A.units + 1 < cLine) (ha : DO X a ta) (hb : DO X b tb) (hm : behindInMarks .NotIn b = false := by rfl) : DO X (.Compare a [.NotIn] [b] pos) (d2 (gDIn (!·)) ta tb) := PE.imp (pe_cmp (pc_dnotin hu ha hb) hm) fun _ _ _ h => up2 fit_din h
theorem dp_din (hu : X.A.units + 1 < cLine) (ha : DO X a ta) (hb : DO X b tb) (hm : behindInMarks .In b = false := by rfl) : DP X (.Compare a [.In] [b] pos) (dB (d2 (gDIn id) ta tb)) := PT.imp (pt_cmp (pc_din hu ha hb) hm) fun _ _ _ h => up2 fit_din (upB h)
theorem dp_dnotin (hu : X.A.units + 1 < cLine) (ha : DO X a ta) (hb : DO X b tb) (hm : behindInMarks .NotIn b = false := by rfl) : DP X (.Compare a [.NotIn] [b] pos) (dB (d2 (gDIn (!·)) ta tb)) := PT.imp (pt_cmp (pc_dnotin hu ha hb) hm) fun _ _ _ h => up2 fit_din (upB h)
/-- d[k] = v -/
def sDPut (i : Nat) (tk tv : DT) : DTS := fun E ρ => tv ρ fun o ρ1 => o.tk ρ1 fun d ρ2 => match ρ2[i]? with
  | some (some (.own _ _)) => tk ρ2 fun ok ρ3 => ok.rd ρ3 fun e => match ρ3[i]? with
    | some (some (.own a (.dict es))) => kDict es = true ∧ isKey e = true ∧ es.length < 16777216 ∧ E.nx (ρ3.set i (some (.own a (.dict (dPutD es e d)))))
    | _ => False
  | _ => False
theorem ds_dput {j : Nat} {p pos' : Pos} (hu : X.A.units + 1 < cLine) (hx : PE X (.Name x p) (tVar j)) (hi : DO X i tk) (hv : DO X e tv) (hs : swapsWith e (some (.Subscript (.Name x p) i pos')) pos.line X.env = pure false := by rfl) :
    DS X (.Assign [.Subscript (.Name x p) i pos'] e pos) (sDPut j tk tv) := PS.imp (ps_dput hu hx hi hv hs) fun D σ H ⟨B, ρ, E, R, t, k⟩ => by
  refine ⟨B, ρ, _, R, t, fun o ρ1 v H1 t1 m1 R1 i1 => ?_⟩
  obtain ⟨d, ρ2, h2, is, R2, m2⟩ := i1.tk R1 t1
  split at h2
  · rename_i a0 d0 h0
    obtain ⟨g1, g2, g3, g4⟩ := R2.own j a0 _ h0
    refine ⟨_, g1, B, ρ2, _, R2, h2, fun ok ρ3 w H3 t3 m3 R3 i3 => ?_⟩
    obtain ⟨ek, h4, r4⟩ := i3.rd R3 t3
    split at h4
    · rename_i a1 es hc
      obtain ⟨kd, ke, hl, nx⟩ := h4
      obtain ⟨f1, f2, f3, f4⟩ := R3.own j a1 _ hc
      rw [g1] at f1
      cases f1
      obtain ⟨kvs, hk, all⟩ := f3.dic kd
      obtain ⟨q, rfl, rfl⟩ := key_of_is r4 ke
      obtain ⟨R4, m4⟩ := R3.write (u := .dK (putK kvs q v)) hc (.dK (all.put q (is.mono m3)))
      refine ⟨a0, _, rfl, DPut.k hk (by rw [all.length, sizeLine_eq]; exact hl), k.nx _ _ _ nx (((m1.trans m2).trans m3).trans m4) R4⟩
    · exact h4.elim
  · exact h2.elim
/-- {}, {k: v} -/
def fD0 : DTF := fun ρ q => q (.dict []) ρ
theorem dfr_d0 : DFr X (.Dict [] [] pos) fD0 := PE.imp pe_dnewK fun σ H Q ⟨B, ρ, q, R, t, k⟩ => fun p hp => by
  obtain ⟨R3, tp, m3⟩ := R.fresh hp (.dK .nilK)
  obtain ⟨e1, e2⟩ := R.entry hp
  exact k _ _ _ _ t e1 e2 m3 R3 tp
/-- one pair -/
def fD1 (tk tv : DT) : DTF := fun ρ q => tk ρ fun ok ρ1 => tv ρ1 fun ov ρ2 => ok.rd ρ2 fun e => ov.tk ρ2 fun d ρ3 => isKey e = true ∧ q (.dict [(e, d)]) ρ3
theorem dfr_d1 (hk : DO X i tk) (hv : DO X e tv) : DFr X (.Dict [some i] [e] pos) (fD1 tk tv) := PE.imp (pe_disp (pps_cons hk hv pps_nil) rfl rfl (fun z => by cases z) (by show 1 ≤ 15; decide)) fun σ H Q ⟨B, ρ, q, R, t, k⟩ => fun p hp => by
  obtain ⟨R1, tp, m1⟩ := R.fresh hp (u := .dK []) (.dK .nilK)
  obtain ⟨e1, e2⟩ := R.entry hp
  refine ⟨(B.plus p).re ρ (upd H p (.dK [])), ρ, _, R1.re, t, fun ok ρ1 v1 H1 t1 m2 R2 i1 => ⟨_, ρ1, _, R2, t1, fun ov ρ2 v2 H2 t2 m3 R3 i2 => ?_⟩⟩
  obtain ⟨ek, t3, r3⟩ := (i1.adv m3).rd R3 t2
  obtain ⟨d, ρ3, ⟨ke, t4⟩, is, R4, m4⟩ := i2.tk R3 t3
  have np : ¬ owns ρ p := fun ⟨i, c, h, z⟩ => (R1.adr i c p h z).2.1 (.inr rfl)
  have hp2 : H2 p = some (.dK []) := R4.keep p _ upd_same np
  obtain ⟨qk, rfl, rfl⟩ := key_of_is r3 ke
  have R5 : Rep (B.plus p) ρ3 σ H2 := R1.unre R4
  obtain ⟨R6, m6⟩ := R5.writeO (p := p) (u := .dK (mergeK [] [(qk, v2)])) (.inr rfl) e2 rfl
  refine ⟨hp2, [(qk, v2)], rfl, by show 1 ≤ 15; decide, ?_⟩
  have mm : Adv (OW (B.plus p) ρ) (OW (B.plus p) ρ3) (upd H p (.dK [])) H2 := (m2.trans m3).trans m4
  exact k _ _ _ _ t4 e1 e2 ((m1.trans mm).trans m6) R6 ⟨_, upd_same, .dK (.consK (Is.mono m6 is) .nilK)⟩

/-! ### enumerate, unpacking a list, powers, a sign's place -/
def iEnumD (ta : DT) : DTI := fun ρ q => ta ρ fun o ρ1 => o.tk ρ1 fun d ρ2 => match d with
  | .list ds => q ((List.range ds.length).zipWith (fun k d => .tuple [.int (k : Nat), d]) ds) ρ2
  | _ => False
theorem zw_get {ds : List PyData} {i : Nat} {f : Nat → PyData → PyData} {d : PyData} (h : ((List.range ds.length).zipWith f ds)[i]? = some d) : ∃ e, ds[i]? = some e ∧ d = f i e := by
  rw [List.getElem?_zipWith] at h
  by_cases hi : i < ds.length
  · rw [List.getElem?_range hi, List.getElem?_eq_getElem hi] at h
    cases h
    exact ⟨_, List.getElem?_eq_getElem hi, rfl⟩
  · rw [List.getElem?_eq_none (by rw [List.length_range]; omega)] at h
    cases h
theorem di_enum {p tpos : Pos} {elts : List Expr} {kk : Nat} (hg : Gl X "enumerate") (hm : X.mg "enumerate" = none) (ha : DO X e ta) (hs : starEach [e] X.env = [(false, eval e X.env)] := by rfl) (he : starEach [e] X.env = (false, eval e X.env) :: starEach [] X.env := by rfl) :
    DI X (.Tuple elts kk tpos) (.Call (.Name "enumerate" p) [e] [] pos) (iEnumD ta) := PI.imp (pi_enum hg hm (pa_cons ha pa_nil he) hs) fun σ H R' ⟨B, ρ, q, R, t, k⟩ => by
  refine ⟨B, ρ, _, R, t, fun o ρ1 v H1 t1 m1 R1 i1 => ?_⟩
  obtain ⟨d, ρ2, h2, is, R2, m2⟩ := i1.tk R1 t1
  split at h2
  · rename_i ds
    cases is with
    | @lst a1 xs _ n e1 all =>
      refine ⟨a1, xs, rfl, SqL.of e1, k _ _ _ _ h2 (m1.trans m2) R2 fun i O' H' m => ?_⟩
      have e' : H' a1 = some (.lst xs) := m.1 _ _ e1 (.inl n)
      refine ⟨fun d hd => ?_, fun hl => ⟨xs, SqL.of e', ?_⟩⟩
      · obtain ⟨de, hde, rfl⟩ := zw_get hd
        obtain ⟨w, hw, iw⟩ := all.get hde
        refine ⟨⟨xs, w, SqL.of e', hw⟩, fun x H'' ⟨T, y, ex, hT, eH, hy⟩ => ?_⟩
        subst ex eH
        have ey : y = w := Option.some.inj ((hy xs (SqL.of e')).symm.trans hw)
        subst ey
        exact ⟨same_new hT, .tup upd_same (.cons (.int _) (.cons ((iw.mono m).mono (.new hT)) .nil))⟩
      · rw [List.length_zipWith, List.length_range, Nat.min_self] at hl
        rw [all.length]
        exact Nat.le_of_eq hl.symm
  · exact h2.elim
/-- x ** n -/
def CPowW (i j : Int) : Prop := 0 ≤ j ∧ (i.natAbs.log2 + 1 : Nat) * j ≤ 134217728
abbrev gPow : D2 := gII CPowW fun i j => .int (i ^ j.toNat)
theorem op_powW : OpR X (binaryOp .Pow) (rI CPowW fun i j => .int (i ^ j.toNat)) := opI fun i j _ _ _ _ _ hc q => by
  refine pow_int hc.1 ?_ q
  have b : Builtin.Int.intBits i ≤ i.natAbs.log2 + 1 := by
    unfold Builtin.Int.intBits
    split <;> omega
  have h1 : ((Builtin.Int.intBits i : Nat) : Int) ≤ ((i.natAbs.log2 + 1 : Nat) : Int) := by omega
  have h2 : ((Builtin.Int.intBits i : Nat) : Int) * j ≤ ((i.natAbs.log2 + 1 : Nat) : Int) * j := Int.mul_le_mul_of_nonneg_right h1 hc.1
  have h3 := hc.2
  have e : (2 : Int) ^ 27 = 134217728 := by decide
  rw [e]
  omega
theorem do_pow (ha : DO X a ta) (hb : DO X b tb) : DO X (.BinOp a .Pow b pos) (d2 (gII CPowW fun i j => .int (i ^ j.toNat)) ta tb) := do_op op_powW fit_rI ha hb
/-- "LR".index(sign) -/
def gIndex : D2 := fun d e q => match d, e with
  | .str x, .str y => L x = [76, 82] ∧ ((L y = [76] ∧ q (.int 0)) ∨ (L y = [82] ∧ q (.int 1)))
  | _, _ => False
theorem occ_LR0 : Builtin.Str.occurrences ⟨#[76, 82]⟩ ⟨#[76]⟩ 0 (Str.length ⟨#[76, 82]⟩) 1 = [0] := by decide +kernel
theorem occ_LR1 : Builtin.Str.occurrences ⟨#[76, 82]⟩ ⟨#[82]⟩ 0 (Str.length ⟨#[76, 82]⟩) 1 = [1] := by decide +kernel
theorem do_index {apos : Pos} (ha : DO X a ta) (hb : DO X b tb) (hs : starEach [b] X.env = [(false, eval b X.env)] := by rfl) (hbase : attributeBase a "index" X.env (eval a X.env) = eval a X.env := by rfl) (hline : (apos.endLine == pos.line) = true := by rfl) :
    DO X (.Call (.Attribute a "index" apos) [b] [] pos) (dM1 gIndex ta tb) := PE.imp (pe_m1 F.slot_str_index F.type_str_index mt_sindex ha hb hs hbase hline) fun _ _ _ h => upM1 (fun O H x y d e q Q _ hx hy h k => by
  unfold gIndex at h
  split at h
  · rename_i x y
    obtain ⟨h1, h2⟩ := h
    have ex : x = ⟨#[76, 82]⟩ := by rw [← mk_L x, h1]; rfl
    subst ex
    rcases h2 with ⟨h2, h3⟩ | ⟨h2, h3⟩
    · exact ⟨_, ⟨#[76]⟩, 0, [], hx.str, by rw [hy.str, str_one h2], occ_LR0, k _ _ _ h3 (Same.refl _) (.int _)⟩
    · exact ⟨_, ⟨#[82]⟩, 1, [], hx.str, by rw [hy.str, str_one h2], occ_LR1, k _ _ _ h3 (Same.refl _) (.int _)⟩
  · exact h.elim) h

/-! ### dict(zip(xs, ys)) -/
/-- the pairs of a dict, the later ones win -/
def dMerge (es : List (PyData × PyData)) : List (PyData × PyData) → List (PyData × PyData)
  | [] => es
  | (k, d) :: r => dMerge (dPutD es k d) r
end
end DL
namespace DL
open PySem PySem.Spec PyProof.Rows L2

/-! ### zip over lists, tuples and texts in any mix -/
inductive ZS where
  | l (a : Addr)
  | t (a : Addr)
  | s (x : Str)
def ZS.v : ZS → V
  | .l a => .ref a
  | .t a => .ref a
  | .s x => .str x
def ZS.sq (K : PySem.W.Frag) : ZS → Hp → List V → Prop
  | .l a, H, xs => SqL K H a xs
  | .t a, H, xs => SqT K H a xs
  | .s x, _, xs => xs = x.cps.toList.map fun c => .str ⟨#[c]⟩
def ZS.st : ZS → Addr → Nat → Heap → Prop
  | .l a, it, i, h => h.IsListIter it a i
  | .t a, it, i, h => h.IsTupleIter it a i
  | .s x, it, i, h => ∃ t, h.IsStrIter it (strIterType x) x t i
def ZS.lt : ZS → Addr → Prop
  | .l a, N => a < N
  | .t a, N => a < N
  | .s _, _ => True
theorem ZS.st.obj {z : ZS} {it : Addr} {i : Nat} {h : Heap} (s : z.st it i h) : ∃ o, h.get? it = some o ∧ ∀ v, o.data ≠ .cell v := by
  cases z with
  | l a => obtain ⟨o, e, _, d⟩ := s; exact ⟨o, e, fun v q => by rw [d] at q; cases q⟩
  | t a => obtain ⟨o, e, _, d⟩ := s; exact ⟨o, e, fun v q => by rw [d] at q; cases q⟩
  | s x => obtain ⟨t, o, e, _, d⟩ := s; exact ⟨o, e, fun v q => by rw [d] at q; cases q⟩
theorem ZS.st.keep {z : ZS} {it : Addr} {i : Nat} {h h' : Heap} (s : z.st it i h) (k : ∀ o, h.get? it = some o → h'.get? it = some o) : z.st it i h' := by
  cases z with
  | l a => obtain ⟨o, e, r⟩ := s; exact ⟨o, k o e, r⟩
  | t a => obtain ⟨o, e, r⟩ := s; exact ⟨o, k o e, r⟩
  | s x => obtain ⟨t, o, e, r⟩ := s; exact ⟨t, o, k o e, r⟩
section
variable {X : Cx} {pins : List (Addr × Obj)} {σ : L2.St} {H : Hp} {s : Shared} {z : ZS} {xs : List V} {it N : Addr} {i : Nat}
theorem rel_get : ∀ {xs : List V} {us : List Value} {i : Nat} {u : Value}, Vals xs us → us[i]? = some u → ∃ x, xs[i]? = some x ∧ RelV x u
  | _, _, _, _, .nil, e => by simp at e
  | _, _, 0, _, .cons r _, e => by simp at e; subst e; exact ⟨_, rfl, r⟩
  | _, _, i + 1, u, .cons _ t, e => by
    obtain ⟨x, h1, h2⟩ := rel_get (i := i) (u := u) t (by simpa using e)
    exact ⟨x, by simpa using h1, h2⟩
theorem ZS.sq_inj {ys : List V} (I : Inv X pins σ H s) (h : z.sq X.K H xs) (h' : z.sq X.K H ys) : xs = ys := by
  cases z with
  | l a => exact I.list_inj h h'
  | t a => exact I.tuple_inj h h'
  | s x => exact h.trans h'.symm
theorem ZS.draw (I : Inv X pins σ H s) (hc : X.calm = true) (hq : z.sq X.K H xs) (st : z.st it i s.heap) (lt : z.lt N) (hit : N ≤ it) :
    ∃ fp P St, Draws X.prog X.w X.A.in1 it (it :: fp) xs.length P St ∧ St i s.heap ∧ (∀ j h, St j h → z.st it j h) ∧ (∀ b ∈ fp, b < N) ∧ ∀ j v, P j v → ∃ x, xs[j]? = some x ∧ RelV x v := by
  have hh : X.A.in1.handled = none := I.ok.hd hc
  cases z with
  | l a =>
    obtain ⟨its, rv, p, _⟩ := I.list hq
    have hl := rv.length
    have D := Draws.list (prog := X.prog) (w := X.w) hh it a (Nat.ne_of_lt (Nat.lt_of_lt_of_le lt hit)) its.toArray
    refine ⟨[a], fun j v => its.toArray[j]? = some v, fun j h => h.IsListIter it a j ∧ h.IsList a its.toArray, by rw [hl]; simpa using D, ⟨st, p.isList⟩, fun j h q => q.1, fun b hb => by rw [List.mem_singleton.mp hb]; exact lt, fun j v hv => ?_⟩
    have hv' : its[j]? = some v := by simpa using hv
    exact rel_get rv hv'
  | t a =>
    obtain ⟨its, rv, p, _⟩ := I.tuple hq
    have hl := rv.length
    have D := Draws.tuple (prog := X.prog) (w := X.w) hh it a (Nat.ne_of_lt (Nat.lt_of_lt_of_le lt hit)) its.toArray
    refine ⟨[a], fun j v => its.toArray[j]? = some v, fun j h => h.IsTupleIter it a j ∧ h.IsTuple a its.toArray, by rw [hl]; simpa using D, ⟨st, p⟩, fun j h q => q.1, fun b hb => by rw [List.mem_singleton.mp hb]; exact lt, fun j v hv => ?_⟩
    have hv' : its[j]? = some v := by simpa using hv
    exact rel_get rv hv'
  | s x =>
    obtain ⟨t, st⟩ := st
    have e : xs.length = x.cps.size := by rw [show xs = _ from hq, List.length_map, Array.length_toList]
    have D := Draws.text (prog := X.prog) (w := X.w) hh it x t
    refine ⟨[], fun j v => ∃ c u, x.cps[j]? = some c ∧ v = .str ⟨#[c]⟩ u, fun j h => h.IsStrIter it (strIterType x) x t j, by rw [e]; exact D, st, fun j h q => ⟨t, q⟩, fun b hb => by simp at hb, fun j v ⟨c, u, hc, ev⟩ => ⟨.str ⟨#[c]⟩, ?_, ⟨u, ev⟩⟩⟩
    rw [show xs = _ from hq, List.getElem?_map, Array.getElem?_toList, hc]
    rfl
theorem ZS.begins {v : Value} (I : Inv X pins σ H s) (hq : z.sq X.K H xs) (r : RelV z.v v) : ∃ o Hb, Begins v o Hb ∧ Hb s.heap ∧ (∀ h it, h.get? it = some o → z.st it 0 h) ∧ z.lt s.heap.objs.size := by
  cases z with
  | l a =>
    cases r
    obtain ⟨its, rv, p, _⟩ := I.list hq
    exact ⟨_, _, begins_list a its.toArray, p.isList, fun h it e => ⟨_, e, rfl, rfl⟩, p.lt⟩
  | t a =>
    cases r
    obtain ⟨its, rv, p, _⟩ := I.tuple hq
    obtain ⟨o, ho, _⟩ := id p
    exact ⟨_, _, begins_tuple a its.toArray, p, fun h it e => ⟨_, e, rfl, rfl⟩, Heap.lt_size ho⟩
  | s x =>
    obtain ⟨t, rfl⟩ := r
    exact ⟨_, _, begins_text x t, trivial, fun h it e => ⟨t, _, e, rfl, rfl⟩, trivial⟩
end
/-- zip of 2 -/
def Itz2s (K : PySem.W.Frag) (z1 z2 : ZS) : It :=
  ⟨fun i H => ∃ (xs1 xs2 : List V) (x1 x2 : V), z1.sq K H xs1 ∧ z2.sq K H xs2 ∧ xs1[i]? = some x1 ∧ xs2[i]? = some x2,
    fun i H v H' => ∃ (T : Addr) (x1 x2 : V), v = .ref T ∧ H T = none ∧ H' = upd H T (.tup [x1, x2]) ∧ (∀ xs, z1.sq K H xs → xs[i]? = some x1) ∧ (∀ xs, z2.sq K H xs → xs[i]? = some x2),
    fun i H => ∃ (xs1 xs2 : List V), z1.sq K H xs1 ∧ z2.sq K H xs2 ∧ i = min xs1.length xs2.length⟩
theorem turn_zip2s {P : Program} {w : World} {K : PySem.W.Frag} {elts : List Expr} {kk : Nat} {tpos : Pos} {z1 z2 : ZS} {N : Addr} (l1 : z1.lt N) (l2 : z2.lt N) :
    Turn P w K (.Tuple elts kk tpos) (Itz2s K z1 z2) [N + 4, N + 2, N + 3, N, N + 1] (N + 4) (fun i h => IsZip h (N + 4) (N + 2) (N + 3) .none ∧ IsTupOf2 h (N + 2) (.ref (N)) (.ref (N + 1)) ∧ (∃ a1 a2, IsTupOf2 h (N + 3) a1 a2) ∧ z1.st (N) i h ∧ z2.st (N + 1) i h) where
  mem := by simp
  obj := fun i h st c hc => by
    obtain ⟨hz, hTI, ⟨y1, y2, hTO⟩, s1, s2⟩ := st
    simp only [List.mem_cons, List.not_mem_nil, or_false] at hc
    rcases hc with rfl | rfl | rfl | rfl | rfl
    · exact ⟨_, hz, fun v q => nomatch q⟩
    · exact ⟨_, hTI, fun v q => nomatch q⟩
    · exact ⟨_, hTO, fun v q => nomatch q⟩
    · exact s1.obj
    · exact s2.obj
  keep := fun i h h' st k => by
    obtain ⟨hz, hTI, ⟨y1, y2, hTO⟩, s1, s2⟩ := st
    exact ⟨k _ (by simp) _ hz, k _ (by simp) _ hTI, ⟨y1, y2, k _ (by simp) _ hTO⟩, s1.keep fun o q => k _ (by simp) o q, s2.keep fun o q => k _ (by simp) o q⟩
  item := by
    intro X hP hw hK hc i pins s σ H E I hf st hg
    subst hP hw hK
    obtain ⟨hz, hTI, hTO, s1, s2⟩ := st
    obtain ⟨xs1, xs2, x1, x2, q1, q2, g1, g2⟩ := hg
    obtain ⟨f1, P1, St1, D1, c1, b1, o1, r1⟩ := ZS.draw I hc q1 s1 l1 (Nat.le_refl _)
    obtain ⟨f2, P2, St2, D2, c2, b2, o2, r2⟩ := ZS.draw I hc q2 s2 l2 (Nat.le_add_right _ _)
    have e1 : i < xs1.length := (List.getElem?_eq_some_iff.mp g1).1
    have e2 : i < xs2.length := (List.getElem?_eq_some_iff.mp g2).1
    refine (GoesN.zip2 (elts := elts) (x1 := kk) (pos := tpos) (zip_sep2 o1 o2) D1 D2).goes i s _ E (by omega) ⟨hz, hTI, hTO, c1, c2⟩ fun v h' tk ⟨T, u1, u2, ev, hT, p1, p2, ht⟩ ⟨hz', hTI', hTO', c1', c2'⟩ hk htk => ?_
    obtain ⟨w1, hw1, rw1⟩ := r1 _ _ p1
    rw [g1] at hw1
    cases hw1
    obtain ⟨w2, hw2, rw2⟩ := r2 _ _ p2
    rw [g2] at hw2
    cases hw2
    subst ev
    have new : ObjOk X.prog X.w (upd H T (.tup [x1, x2])) h' T (.tup [x1, x2]) :=
      ⟨by show 2 ≤ sizeLine; decide, [u1, u2], .cons rw1 (.cons rw2 (.nil)), ht⟩
    have I1 := I.turnedNew (t' := tk) (ch := [N + 4, N + 3, N, N + 1]) (fun b o hb q => hk b o hb q) (fun b hb => hf b (by
      simp only [List.mem_cons, List.not_mem_nil, or_false] at hb ⊢
      rcases hb with h | h | h | h <;> simp [h])) hT new
    refine ⟨.ref T, _, I1, rfl, ⟨T, x1, x2, rfl, I.hok.fresh hT, rfl, fun l hl => by rw [ZS.sq_inj I hl q1]; exact g1, fun l hl => by rw [ZS.sq_inj I hl q2]; exact g2⟩, ⟨hz', hTI', hTO', b1 _ _ c1', b2 _ _ c2'⟩, fun c hcm => ?_⟩
    have hlt : c < s.heap.objs.size := by
      simp only [List.mem_cons, List.not_mem_nil, or_false] at hcm
      rcases hcm with rfl | rfl | rfl | rfl | rfl
      · exact Heap.lt_size hz
      · exact Heap.lt_size hTI
      · obtain ⟨y1, y2, hTO⟩ := hTO
        exact Heap.lt_size hTO
      · obtain ⟨o, e, _⟩ := s1.obj; exact Heap.lt_size e
      · obtain ⟨o, e, _⟩ := s2.obj; exact Heap.lt_size e
    rw [upd_ne (Nat.ne_of_lt (Nat.lt_of_lt_of_le hlt hT))]
    exact (hf c hcm).1
  done := by
    intro X hP hw hK hc i pins s σ H E I hf st hg
    subst hP hw hK
    obtain ⟨hz, hTI, hTO, s1, s2⟩ := st
    obtain ⟨xs1, xs2, q1, q2, hi⟩ := hg
    obtain ⟨f1, P1, St1, D1, c1, b1, o1, r1⟩ := ZS.draw I hc q1 s1 l1 (Nat.le_refl _)
    obtain ⟨f2, P2, St2, D2, c2, b2, o2, r2⟩ := ZS.draw I hc q2 s2 l2 (Nat.le_add_right _ _)
    subst hi
    refine (GoesN.zip2 (elts := elts) (x1 := kk) (pos := tpos) (zip_sep2 o1 o2) D1 D2).stops s _ E ⟨hz, hTI, hTO, c1, c2⟩ fun h' tk hk htk => ?_
    exact I.turnedL (t' := tk) (ch := [N + 4, N + 3, N, N + 1]) (fun b o hb q => hk b o hb q) (fun b hb => hf b (by
      simp only [List.mem_cons, List.not_mem_nil, or_false] at hb ⊢
      rcases hb with h | h | h | h <;> simp [h]))
  self := fun A i s Q E st h => wpAny_pyIter_zip st.1 h
def iZip2s (K : PySem.W.Frag) (ta : TA) : TI := fun σ H R => ta σ H fun vs H1 => ∃ (z1 z2 : ZS) (xs1 xs2 : List V), vs = [z1.v, z2.v] ∧ z1.sq K H1 xs1 ∧ z2.sq K H1 xs2 ∧ R (Itz2s K z1 z2) H1
theorem pi_zip2s {X : Cx} {e1 e2 : Expr} {ta : TA} {p pos tpos : Pos} {elts : List Expr} {kk : Nat} (hg : Gl X "zip") (hm : X.mg "zip" = none) (ha : PA X [e1, e2] ta)
    (hs : starEach [e1, e2] X.env = (false, eval e1 X.env) :: starEach [e2] X.env := by rfl) (hpl : (backTo pos (starEach [e2] X.env)).any (·.1) = false := by rfl) :
    PI X (.Tuple elts kk tpos) (.Call (.Name "zip" p) [e1, e2] [] pos) (iZip2s X.K ta) := by
  refine ⟨fun pins s σ H R I h => ?_⟩
  refine Call_ (ld_blt I hg hm PyProof.Rows.boot_zip (PyProof.Rows.callWith_type1 (thn (ha.run pos pins s σ H _ I h) fun us s1 ⟨vs, H1, I1, rr, qq⟩ => ?_) hs hpl))
  obtain ⟨z1, z2, xs1, xs2, ex, q1, q2, q⟩ := qq
  subst ex
  obtain ⟨v1, us1, e1, r1, rr1⟩ : ∃ v l, us = v :: l ∧ RelV z1.v v ∧ Vals [z2.v] l := by
    cases rr with
    | cons a b => exact ⟨_, _, rfl, a, b⟩
  subst e1
  obtain ⟨v2, us2, e2, r2, rr2⟩ : ∃ v l, us1 = v :: l ∧ RelV z2.v v ∧ Vals [] l := by
    cases rr1 with
    | cons a b => exact ⟨_, _, rfl, a, b⟩
  subst e2
  cases rr2
  obtain ⟨o1, B1, b1, t1, w1, y1⟩ := ZS.begins I1 q1 r1
  obtain ⟨o2, B2, b2, t2, w2, y2⟩ := ZS.begins I1 q2 r2
  refine zip_begins2 b1 b2 t1 t2 fun h' hz hTI hTO g1 g2 hsz hk => wpAny_pyIter_zip hz ?_
  have I2 : Inv X pins σ H1 { s1 with heap := h' } := I1.kept (t' := s1.toks) hk
  refine ⟨s1.heap.objs.size + 4, [s1.heap.objs.size + 4, s1.heap.objs.size + 2, s1.heap.objs.size + 3, s1.heap.objs.size, s1.heap.objs.size + 1], _, _, H1, rfl, I2, turn_zip2s y1 y2, ⟨hz, hTI, ⟨_, _, hTO⟩, w1 _ _ g1, w2 _ _ g2⟩, fun c hcm => ?_, q⟩
  have hle : s1.heap.objs.size ≤ c := by
    simp only [List.mem_cons, List.not_mem_nil, or_false] at hcm
    rcases hcm with rfl | rfl | rfl | rfl | rfl <;> first | exact Nat.le_add_right _ _ | exact Nat.le_refl _
  exact I1.fpOk hle (I1.hok.fresh hle)
/-- zip of 3 -/
def Itz3s (K : PySem.W.Frag) (z1 z2 z3 : ZS) : It :=
  ⟨fun i H => ∃ (xs1 xs2 xs3 : List V) (x1 x2 x3 : V), z1.sq K H xs1 ∧ z2.sq K H xs2 ∧ z3.sq K H xs3 ∧ xs1[i]? = some x1 ∧ xs2[i]? = some x2 ∧ xs3[i]? = some x3,
    fun i H v H' => ∃ (T : Addr) (x1 x2 x3 : V), v = .ref T ∧ H T = none ∧ H' = upd H T (.tup [x1, x2, x3]) ∧ (∀ xs, z1.sq K H xs → xs[i]? = some x1) ∧ (∀ xs, z2.sq K H xs → xs[i]? = some x2) ∧ (∀ xs, z3.sq K H xs → xs[i]? = some x3),
    fun i H => ∃ (xs1 xs2 xs3 : List V), z1.sq K H xs1 ∧ z2.sq K H xs2 ∧ z3.sq K H xs3 ∧ i = min (min xs1.length xs2.length) xs3.length⟩
theorem turn_zip3s {P : Program} {w : World} {K : PySem.W.Frag} {elts : List Expr} {kk : Nat} {tpos : Pos} {z1 z2 z3 : ZS} {N : Addr} (l1 : z1.lt N) (l2 : z2.lt N) (l3 : z3.lt N) :
    Turn P w K (.Tuple elts kk tpos) (Itz3s K z1 z2 z3) [N + 5, N + 3, N + 4, N, N + 1, N + 2] (N + 5) (fun i h => IsZip h (N + 5) (N + 3) (N + 4) .none ∧ IsTupOf3 h (N + 3) (.ref (N)) (.ref (N + 1)) (.ref (N + 2)) ∧ (∃ a1 a2 a3, IsTupOf3 h (N + 4) a1 a2 a3) ∧ z1.st (N) i h ∧ z2.st (N + 1) i h ∧ z3.st (N + 2) i h) where
  mem := by simp
  obj := fun i h st c hc => by
    obtain ⟨hz, hTI, ⟨y1, y2, y3, hTO⟩, s1, s2, s3⟩ := st
    simp only [List.mem_cons, List.not_mem_nil, or_false] at hc
    rcases hc with rfl | rfl | rfl | rfl | rfl | rfl
    · exact ⟨_, hz, fun v q => nomatch q⟩
    · exact ⟨_, hTI, fun v q => nomatch q⟩
    · exact ⟨_, hTO, fun v q => nomatch q⟩
    · exact s1.obj
    · exact s2.obj
    · exact s3.obj
  keep := fun i h h' st k => by
    obtain ⟨hz, hTI, ⟨y1, y2, y3, hTO⟩, s1, s2, s3⟩ := st
    exact ⟨k _ (by simp) _ hz, k _ (by simp) _ hTI, ⟨y1, y2, y3, k _ (by simp) _ hTO⟩, s1.keep fun o q => k _ (by simp) o q, s2.keep fun o q => k _ (by simp) o q, s3.keep fun o q => k _ (by simp) o q⟩
  item := by
    intro X hP hw hK hc i pins s σ H E I hf st hg
    subst hP hw hK
    obtain ⟨hz, hTI, hTO, s1, s2, s3⟩ := st
    obtain ⟨xs1, xs2, xs3, x1, x2, x3, q1, q2, q3, g1, g2, g3⟩ := hg
    obtain ⟨f1, P1, St1, D1, c1, b1, o1, r1⟩ := ZS.draw I hc q1 s1 l1 (Nat.le_refl _)
    obtain ⟨f2, P2, St2, D2, c2, b2, o2, r2⟩ := ZS.draw I hc q2 s2 l2 (Nat.le_add_right _ _)
    obtain ⟨f3, P3, St3, D3, c3, b3, o3, r3⟩ := ZS.draw I hc q3 s3 l3 (Nat.le_add_right _ _)
    have e1 : i < xs1.length := (List.getElem?_eq_some_iff.mp g1).1
    have e2 : i < xs2.length := (List.getElem?_eq_some_iff.mp g2).1
    have e3 : i < xs3.length := (List.getElem?_eq_some_iff.mp g3).1
    refine (GoesN.zip3 (elts := elts) (x1 := kk) (pos := tpos) (zip_sep3 o1 o2 o3) D1 D2 D3).goes i s _ E (by omega) ⟨hz, hTI, hTO, c1, c2, c3⟩ fun v h' tk ⟨T, u1, u2, u3, ev, hT, p1, p2, p3, ht⟩ ⟨hz', hTI', hTO', c1', c2', c3'⟩ hk htk => ?_
    obtain ⟨w1, hw1, rw1⟩ := r1 _ _ p1
    rw [g1] at hw1
    cases hw1
    obtain ⟨w2, hw2, rw2⟩ := r2 _ _ p2
    rw [g2] at hw2
    cases hw2
    obtain ⟨w3, hw3, rw3⟩ := r3 _ _ p3
    rw [g3] at hw3
    cases hw3
    subst ev
    have new : ObjOk X.prog X.w (upd H T (.tup [x1, x2, x3])) h' T (.tup [x1, x2, x3]) :=
      ⟨by show 3 ≤ sizeLine; decide, [u1, u2, u3], .cons rw1 (.cons rw2 (.cons rw3 (.nil))), ht⟩
    have I1 := I.turnedNew (t' := tk) (ch := [N + 5, N + 4, N, N + 1, N + 2]) (fun b o hb q => hk b o hb q) (fun b hb => hf b (by
      simp only [List.mem_cons, List.not_mem_nil, or_false] at hb ⊢
      rcases hb with h | h | h | h | h <;> simp [h])) hT new
    refine ⟨.ref T, _, I1, rfl, ⟨T, x1, x2, x3, rfl, I.hok.fresh hT, rfl, fun l hl => by rw [ZS.sq_inj I hl q1]; exact g1, fun l hl => by rw [ZS.sq_inj I hl q2]; exact g2, fun l hl => by rw [ZS.sq_inj I hl q3]; exact g3⟩, ⟨hz', hTI', hTO', b1 _ _ c1', b2 _ _ c2', b3 _ _ c3'⟩, fun c hcm => ?_⟩
    have hlt : c < s.heap.objs.size := by
      simp only [List.mem_cons, List.not_mem_nil, or_false] at hcm
      rcases hcm with rfl | rfl | rfl | rfl | rfl | rfl
      · exact Heap.lt_size hz
      · exact Heap.lt_size hTI
      · obtain ⟨y1, y2, y3, hTO⟩ := hTO
        exact Heap.lt_size hTO
      · obtain ⟨o, e, _⟩ := s1.obj; exact Heap.lt_size e
      · obtain ⟨o, e, _⟩ := s2.obj; exact Heap.lt_size e
      · obtain ⟨o, e, _⟩ := s3.obj; exact Heap.lt_size e
    rw [upd_ne (Nat.ne_of_lt (Nat.lt_of_lt_of_le hlt hT))]
    exact (hf c hcm).1
  done := by
    intro X hP hw hK hc i pins s σ H E I hf st hg
    subst hP hw hK
    obtain ⟨hz, hTI, hTO, s1, s2, s3⟩ := st
    obtain ⟨xs1, xs2, xs3, q1, q2, q3, hi⟩ := hg
    obtain ⟨f1, P1, St1, D1, c1, b1, o1, r1⟩ := ZS.draw I hc q1 s1 l1 (Nat.le_refl _)
    obtain ⟨f2, P2, St2, D2, c2, b2, o2, r2⟩ := ZS.draw I hc q2 s2 l2 (Nat.le_add_right _ _)
    obtain ⟨f3, P3, St3, D3, c3, b3, o3, r3⟩ := ZS.draw I hc q3 s3 l3 (Nat.le_add_right _ _)
    subst hi
    refine (GoesN.zip3 (elts := elts) (x1 := kk) (pos := tpos) (zip_sep3 o1 o2 o3) D1 D2 D3).stops s _ E ⟨hz, hTI, hTO, c1, c2, c3⟩ fun h' tk hk htk => ?_
    exact I.turnedL (t' := tk) (ch := [N + 5, N + 4, N, N + 1, N + 2]) (fun b o hb q => hk b o hb q) (fun b hb => hf b (by
      simp only [List.mem_cons, List.not_mem_nil, or_false] at hb ⊢
      rcases hb with h | h | h | h | h <;> simp [h]))
  self := fun A i s Q E st h => wpAny_pyIter_zip st.1 h
def iZip3s (K : PySem.W.Frag) (ta : TA) : TI := fun σ H R => ta σ H fun vs H1 => ∃ (z1 z2 z3 : ZS) (xs1 xs2 xs3 : List V), vs = [z1.v, z2.v, z3.v] ∧ z1.sq K H1 xs1 ∧ z2.sq K H1 xs2 ∧ z3.sq K H1 xs3 ∧ R (Itz3s K z1 z2 z3) H1
theorem pi_zip3s {X : Cx} {e1 e2 e3 : Expr} {ta : TA} {p pos tpos : Pos} {elts : List Expr} {kk : Nat} (hg : Gl X "zip") (hm : X.mg "zip" = none) (ha : PA X [e1, e2, e3] ta)
    (hs : starEach [e1, e2, e3] X.env = (false, eval e1 X.env) :: starEach [e2, e3] X.env := by rfl) (hpl : (backTo pos (starEach [e2, e3] X.env)).any (·.1) = false := by rfl) :
    PI X (.Tuple elts kk tpos) (.Call (.Name "zip" p) [e1, e2, e3] [] pos) (iZip3s X.K ta) := by
  refine ⟨fun pins s σ H R I h => ?_⟩
  refine Call_ (ld_blt I hg hm PyProof.Rows.boot_zip (PyProof.Rows.callWith_type1 (thn (ha.run pos pins s σ H _ I h) fun us s1 ⟨vs, H1, I1, rr, qq⟩ => ?_) hs hpl))
  obtain ⟨z1, z2, z3, xs1, xs2, xs3, ex, q1, q2, q3, q⟩ := qq
  subst ex
  obtain ⟨v1, us1, e1, r1, rr1⟩ : ∃ v l, us = v :: l ∧ RelV z1.v v ∧ Vals [z2.v, z3.v] l := by
    cases rr with
    | cons a b => exact ⟨_, _, rfl, a, b⟩
  subst e1
  obtain ⟨v2, us2, e2, r2, rr2⟩ : ∃ v l, us1 = v :: l ∧ RelV z2.v v ∧ Vals [z3.v] l := by
    cases rr1 with
    | cons a b => exact ⟨_, _, rfl, a, b⟩
  subst e2
  obtain ⟨v3, us3, e3, r3, rr3⟩ : ∃ v l, us2 = v :: l ∧ RelV z3.v v ∧ Vals [] l := by
    cases rr2 with
    | cons a b => exact ⟨_, _, rfl, a, b⟩
  subst e3
  cases rr3
  obtain ⟨o1, B1, b1, t1, w1, y1⟩ := ZS.begins I1 q1 r1
  obtain ⟨o2, B2, b2, t2, w2, y2⟩ := ZS.begins I1 q2 r2
  obtain ⟨o3, B3, b3, t3, w3, y3⟩ := ZS.begins I1 q3 r3
  refine zip_begins3 b1 b2 b3 t1 t2 t3 fun h' hz hTI hTO g1 g2 g3 hsz hk => wpAny_pyIter_zip hz ?_
  have I2 : Inv X pins σ H1 { s1 with heap := h' } := I1.kept (t' := s1.toks) hk
  refine ⟨s1.heap.objs.size + 5, [s1.heap.objs.size + 5, s1.heap.objs.size + 3, s1.heap.objs.size + 4, s1.heap.objs.size, s1.heap.objs.size + 1, s1.heap.objs.size + 2], _, _, H1, rfl, I2, turn_zip3s y1 y2 y3, ⟨hz, hTI, ⟨_, _, _, hTO⟩, w1 _ _ g1, w2 _ _ g2, w3 _ _ g3⟩, fun c hcm => ?_, q⟩
  have hle : s1.heap.objs.size ≤ c := by
    simp only [List.mem_cons, List.not_mem_nil, or_false] at hcm
    rcases hcm with rfl | rfl | rfl | rfl | rfl | rfl <;> first | exact Nat.le_add_right _ _ | exact Nat.le_refl _
  exact I1.fpOk hle (I1.hok.fresh hle)
end DL
namespace DL
open PySem PySem.Spec PyProof.Rows L2

/-! ### zips, on data -/
/-- what is walked: a list, a tuple, a text -/
def seqD : PyData → Option (List PyData)
  | .list ds => some ds
  | .tuple ds => some ds
  | .str x => some ((L x).map fun c => S [c])
  | _ => none
theorem zs_of {K : PySem.W.Frag} {O : Addr → Prop} {H0 : Hp} {v : V} {d : PyData} {ds : List PyData} (is : Is O H0 v d) (e : seqD d = some ds) :
    ∃ (z : ZS) (xs : List V), v = z.v ∧ xs.length = ds.length ∧ z.sq K H0 xs ∧ ∀ O' H, Adv O O' H0 H → z.sq K H xs ∧ IsAll O' H xs ds := by
  cases is with
  | non => cases e
  | bl b => cases e
  | int i => cases e
  | @lst a xs ds' n r all =>
    cases e
    exact ⟨.l a, xs, rfl, all.length, SqL.of r, fun O' H m => ⟨SqL.of (m.1 _ _ r (.inl n)), all.mono m⟩⟩
  | @tup a xs ds' r all =>
    cases e
    exact ⟨.t a, xs, rfl, all.length, SqT.of r, fun O' H m => ⟨SqT.of (m.1 _ _ r (.inr rfl)), all.mono m⟩⟩
  | str x =>
    cases e
    have go : ∀ (l : List Nat) (O' : Addr → Prop) (H : Hp), IsAll O' H (l.map fun c => V.str ⟨#[c]⟩) (l.map fun c => S [c]) := by
      intro l O' H
      induction l with
      | nil => exact .nil
      | cons c l ih => exact .cons (.str _) ih
    exact ⟨.s x, x.cps.toList.map fun c => .str ⟨#[c]⟩, rfl, by rw [List.length_map, List.length_map]; rfl, rfl, fun O' H m => ⟨rfl, go _ _ _⟩⟩
  | dK n r t => cases e
  | dT n r t => cases e
def zip2D (xs ys : List PyData) : List PyData := List.zipWith (fun a b => .tuple [a, b]) xs ys
def zip3D (xs ys zs : List PyData) : List PyData := List.zipWith (fun ab c => match ab with | .tuple l => .tuple (l ++ [c]) | d => d) (zip2D xs ys) zs
theorem zw2 {xs ys : List PyData} {i : Nat} {d : PyData} (h : (zip2D xs ys)[i]? = some d) : ∃ a b, xs[i]? = some a ∧ ys[i]? = some b ∧ d = .tuple [a, b] := by
  unfold zip2D at h
  rw [List.getElem?_zipWith] at h
  cases q : xs[i]? with
  | none => rw [q] at h; cases h
  | some a =>
    cases q2 : ys[i]? with
    | none => rw [q, q2] at h; cases h
    | some b =>
      rw [q, q2] at h
      cases h
      exact ⟨a, b, rfl, rfl, rfl⟩
theorem zw3 {xs ys zs : List PyData} {i : Nat} {d : PyData} (h : (zip3D xs ys zs)[i]? = some d) : ∃ a b c, xs[i]? = some a ∧ ys[i]? = some b ∧ zs[i]? = some c ∧ d = .tuple [a, b, c] := by
  unfold zip3D at h
  rw [List.getElem?_zipWith] at h
  cases q : (zip2D xs ys)[i]? with
  | none => rw [q] at h; cases h
  | some ab =>
    obtain ⟨a, b, h1, h2, rfl⟩ := zw2 q
    cases q2 : zs[i]? with
    | none => rw [q, q2] at h; cases h
    | some c =>
      rw [q, q2] at h
      cases h
      exact ⟨a, b, c, h1, h2, rfl, rfl⟩
theorem Is.advNew {O : Addr → Prop} {H : Hp} {T : Addr} {u : HO} {v : V} {d : PyData} (is : Is O H v d) (h : H T = none) : Is O (upd H T u) v d := is.mono (.new h)
theorem src_zip2 {K : PySem.W.Frag} {O : Addr → Prop} {H0 : Hp} {v1 v2 : V} {d1 d2 : PyData} {ds1 ds2 : List PyData} {z1 z2 : ZS} {xs1 xs2 : List V} (l1 : xs1.length = ds1.length) (l2 : xs2.length = ds2.length)
    (k1 : ∀ O' H, Adv O O' H0 H → z1.sq K H xs1 ∧ IsAll O' H xs1 ds1) (k2 : ∀ O' H, Adv O O' H0 H → z2.sq K H xs2 ∧ IsAll O' H xs2 ds2) : Src (Itz2s K z1 z2) O H0 (zip2D ds1 ds2) := fun i O' H m => by
  obtain ⟨q1, a1⟩ := k1 _ _ m
  obtain ⟨q2, a2⟩ := k2 _ _ m
  refine ⟨fun d hd => ?_, fun hl => ⟨xs1, xs2, q1, q2, ?_⟩⟩
  · obtain ⟨a, b, h1, h2, rfl⟩ := zw2 hd
    obtain ⟨w1, g1, i1⟩ := a1.get h1
    obtain ⟨w2, g2, i2⟩ := a2.get h2
    refine ⟨⟨xs1, xs2, w1, w2, q1, q2, g1, g2⟩, fun x H' ⟨T, y1, y2, ex, hT, eH, f1, f2⟩ => ?_⟩
    subst ex eH
    have e1 := Option.some.inj ((f1 xs1 q1).symm.trans g1)
    have e2 := Option.some.inj ((f2 xs2 q2).symm.trans g2)
    subst e1 e2
    exact ⟨same_new hT, .tup upd_same (.cons (i1.advNew hT) (.cons (i2.advNew hT) .nil))⟩
  · rw [zip2D, List.length_zipWith] at hl
    rw [l1, l2]
    exact hl
theorem src_zip3 {K : PySem.W.Frag} {O : Addr → Prop} {H0 : Hp} {ds1 ds2 ds3 : List PyData} {z1 z2 z3 : ZS} {xs1 xs2 xs3 : List V} (l1 : xs1.length = ds1.length) (l2 : xs2.length = ds2.length) (l3 : xs3.length = ds3.length)
    (k1 : ∀ O' H, Adv O O' H0 H → z1.sq K H xs1 ∧ IsAll O' H xs1 ds1) (k2 : ∀ O' H, Adv O O' H0 H → z2.sq K H xs2 ∧ IsAll O' H xs2 ds2) (k3 : ∀ O' H, Adv O O' H0 H → z3.sq K H xs3 ∧ IsAll O' H xs3 ds3) : Src (Itz3s K z1 z2 z3) O H0 (zip3D ds1 ds2 ds3) := fun i O' H m => by
  obtain ⟨q1, a1⟩ := k1 _ _ m
  obtain ⟨q2, a2⟩ := k2 _ _ m
  obtain ⟨q3, a3⟩ := k3 _ _ m
  refine ⟨fun d hd => ?_, fun hl => ⟨xs1, xs2, xs3, q1, q2, q3, ?_⟩⟩
  · obtain ⟨a, b, c, h1, h2, h3, rfl⟩ := zw3 hd
    obtain ⟨w1, g1, i1⟩ := a1.get h1
    obtain ⟨w2, g2, i2⟩ := a2.get h2
    obtain ⟨w3, g3, i3⟩ := a3.get h3
    refine ⟨⟨xs1, xs2, xs3, w1, w2, w3, q1, q2, q3, g1, g2, g3⟩, fun x H' ⟨T, y1, y2, y3, ex, hT, eH, f1, f2, f3⟩ => ?_⟩
    subst ex eH
    have e1 := Option.some.inj ((f1 xs1 q1).symm.trans g1)
    have e2 := Option.some.inj ((f2 xs2 q2).symm.trans g2)
    have e3 := Option.some.inj ((f3 xs3 q3).symm.trans g3)
    subst e1 e2 e3
    exact ⟨same_new hT, .tup upd_same (.cons (i1.advNew hT) (.cons (i2.advNew hT) (.cons (i3.advNew hT) .nil)))⟩
  · rw [zip3D, zip2D, List.length_zipWith, List.length_zipWith] at hl
    rw [l1, l2, l3]
    exact hl
section
variable {X : Cx} {e e1 e2 e3 : Expr} {t : DTA} {pos : Pos}
def iZ2 (t : DTA) : DTI := fun ρ q => t ρ fun os ρ1 => tkAll os ρ1 fun ds ρ2 => match ds with
  | [d, e] => ∃ xs ys, seqD d = some xs ∧ seqD e = some ys ∧ q (zip2D xs ys) ρ2
  | _ => False
def iZ3 (t : DTA) : DTI := fun ρ q => t ρ fun os ρ1 => tkAll os ρ1 fun ds ρ2 => match ds with
  | [d, e, f] => ∃ xs ys zs, seqD d = some xs ∧ seqD e = some ys ∧ seqD f = some zs ∧ q (zip3D xs ys zs) ρ2
  | _ => False
theorem isAll2 {O : Addr → Prop} {H : Hp} {xs : List V} {d e : PyData} (h : IsAll O H xs [d, e]) : ∃ x y, xs = [x, y] ∧ Is O H x d ∧ Is O H y e := by
  cases h with
  | cons r t =>
    cases t with
    | cons r' t => cases t; exact ⟨_, _, rfl, r, r'⟩
theorem isAll3 {O : Addr → Prop} {H : Hp} {xs : List V} {d e f : PyData} (h : IsAll O H xs [d, e, f]) : ∃ x y z, xs = [x, y, z] ∧ Is O H x d ∧ Is O H y e ∧ Is O H z f := by
  cases h with
  | cons r t =>
    obtain ⟨y, z, rfl, r1, r2⟩ := isAll2 t
    exact ⟨_, y, z, rfl, r, r1, r2⟩
theorem di_zip2 {p tpos : Pos} {elts : List Expr} {kk : Nat} (hg : Gl X "zip") (hm : X.mg "zip" = none) (ha : DA X [e1, e2] t)
    (hs : starEach [e1, e2] X.env = (false, eval e1 X.env) :: starEach [e2] X.env := by rfl) (hpl : (backTo pos (starEach [e2] X.env)).any (·.1) = false := by rfl) :
    DI X (.Tuple elts kk tpos) (.Call (.Name "zip" p) [e1, e2] [] pos) (iZ2 t) := PI.imp (pi_zip2s hg hm ha hs hpl) fun σ H R' ⟨B, ρ, q, R, t, k⟩ => by
  refine ⟨B, ρ, _, R, t, fun os ρ1 vs H1 t1 m1 R1 i1 => ?_⟩
  obtain ⟨ds, ρ2, h2, is, R2, m2⟩ := OAll.tk R1 i1 t1
  split at h2
  · obtain ⟨xs, ys, g1, g2, h3⟩ := h2
    obtain ⟨v1, v2, rfl, j1, j2⟩ := isAll2 is
    obtain ⟨z1, xs1, f1, l1, s1, k1⟩ := zs_of (K := X.K) j1 g1
    obtain ⟨z2, xs2, f2, l2, s2, k2⟩ := zs_of (K := X.K) j2 g2
    exact ⟨z1, z2, xs1, xs2, by rw [f1, f2], s1, s2, k _ _ _ _ h3 (m1.trans m2) R2 (src_zip2 (v1 := v1) (v2 := v2) (d1 := .none) (d2 := .none) l1 l2 k1 k2)⟩
  · exact h2.elim
theorem di_zip3 {p tpos : Pos} {elts : List Expr} {kk : Nat} (hg : Gl X "zip") (hm : X.mg "zip" = none) (ha : DA X [e1, e2, e3] t)
    (hs : starEach [e1, e2, e3] X.env = (false, eval e1 X.env) :: starEach [e2, e3] X.env := by rfl) (hpl : (backTo pos (starEach [e2, e3] X.env)).any (·.1) = false := by rfl) :
    DI X (.Tuple elts kk tpos) (.Call (.Name "zip" p) [e1, e2, e3] [] pos) (iZ3 t) := PI.imp (pi_zip3s hg hm ha hs hpl) fun σ H R' ⟨B, ρ, q, R, t, k⟩ => by
  refine ⟨B, ρ, _, R, t, fun os ρ1 vs H1 t1 m1 R1 i1 => ?_⟩
  obtain ⟨ds, ρ2, h2, is, R2, m2⟩ := OAll.tk R1 i1 t1
  split at h2
  · obtain ⟨xs, ys, zs, g1, g2, g3, h3⟩ := h2
    obtain ⟨v1, v2, v3, rfl, j1, j2, j3⟩ := isAll3 is
    obtain ⟨z1, xs1, f1, l1, s1, k1⟩ := zs_of (K := X.K) j1 g1
    obtain ⟨z2, xs2, f2, l2, s2, k2⟩ := zs_of (K := X.K) j2 g2
    obtain ⟨z3, xs3, f3, l3, s3, k3⟩ := zs_of (K := X.K) j3 g3
    exact ⟨z1, z2, z3, xs1, xs2, xs3, by rw [f1, f2, f3], s1, s2, s3, k _ _ _ _ h3 (m1.trans m2) R2 (src_zip3 l1 l2 l3 k1 k2 k3)⟩
  · exact h2.elim
end

/-! ### a, b = a list -/
section
variable {prog : Program} {w : World} {A : Around} {E : Value → Shared → Prop} {s : Shared}
theorem draw_list {it t : Addr} {items : Array Value} (ne' : t ≠ it) : ∀ (n i : Nat) (s : Shared) (Q : List Value → Shared → Prop), s.heap.IsListIter it t i → s.heap.IsList t items → i + n ≤ items.size →
    (∀ h', h'.IsListIter it t (i + n) → Heap.SameBut it s.heap h' → Q ((items.toList.drop i).take n) { s with heap := h' }) → wpAny (model prog w) A (draw (.ref it) n) Q E s := by
  intro n
  induction n with
  | zero =>
    intro i s Q hit _ _ hQ
    show wpAny _ _ (pure []) Q E s
    exact wpAny_pure (by simpa using hQ s.heap hit (Heap.SameBut.refl ..))
  | succ n ih =>
    intro i s Q hit ht hle hQ
    have lt : i < items.size := by omega
    show wpAny _ _ (pyNext (.ref it) >>= _) Q E s
    refine wpAny_bind (wpAny_pyNext_list_item hit ht (x := items[i]) (by simp [lt]) fun h1 hit1 s1 => ?_)
    refine wpAny_bind (wpAny_holding (ih (i + 1) _ _ hit1 (ht.extBut s1.extBut ne') (by omega) fun h2 hit2 s2 => wpAny_pure ?_))
    have e : items.toList.drop i = items[i] :: items.toList.drop (i + 1) := by simp [List.drop_eq_getElem_cons, lt]
    have r := hQ h2 (by rw [show i + (n + 1) = i + 1 + n by omega]; exact hit2) (s1.trans s2)
    rw [e, List.take_succ_cons] at r
    exact r
theorem unpack_items_list {t : Addr} {items : Array Value} {Q : List Value → Shared → Prop} (hh : A.handled = none) (ht : s.heap.IsList t items)
    (hQ : ∀ h', Heap.ExtBut s.heap.objs.size s.heap h' → Q items.toList { s with heap := h' }) : wpAny (model prog w) A (unpackItems (.ref t) items.size none) Q E s := by
  have ne' : t ≠ s.heap.objs.size := by obtain ⟨o, ho, _⟩ := ht; exact Nat.ne_of_lt (Heap.lt_size ho)
  unfold unpackItems
  refine wpAny_bind ?_
  unfold notIterableAtAll
  refine wpAny_bind (wpAny_specialOf ht.typeIs PySem.slot_list_iter.lookup (wpAny_pure ?_))
  simp only [Bool.false_eq_true, if_false]
  refine wpAny_bind (wpAny_holding (wpAny_pyIter_list ht ?_))
  have new : (s.heap.push { cls := .type "list_iterator", data := .fields #[.ref t, .int 0 0] }).IsListIter s.heap.objs.size t 0 := ⟨_, Heap.get?_push_size _ rfl, rfl, rfl⟩
  refine wpAny_bind (wpAny_holding (draw_list ne' items.size 0 _ _ new (ht.at fun o e => Heap.get?_push_of_some _ e) (by omega) fun h1 hit1 s1 => ?_))
  have all : List.take items.size (List.drop 0 items.toList) = items.toList := by
    rw [List.drop_zero]; exact List.take_of_length_le (by simp)
  rw [all, if_neg (by simp)]
  have ht1 : h1.IsList t items := (ht.at fun o e => Heap.get?_push_of_some _ e).extBut s1.extBut ne'
  refine wpAny_bind (wpAny_holding (wpAny_pyNext_list_end hh hit1 ht1 (by simp) fun h2 x2 => ?_))
  simp only [Option.isSome_none, Bool.false_eq_true, if_false]
  exact wpAny_pure (hQ h2 fun b o hb e => x2 b o hb (s1.extBut b o hb (Heap.get?_push_of_some _ e)))
end
section
variable {X : Cx} {a : Expr} {es : List Expr} {ws : List Nat} {pos : Pos}
def gLst (K : PySem.W.Frag) (n : Nat) (t : TGs) : TG := fun v σ H Q => ∃ a xs, v = .ref a ∧ SqL K H a xs ∧ xs.length = n ∧ t xs σ H Q
theorem pg_lst {k : Nat} {t : TGs} {n : Nat} (hc : X.calm = true) (h : PGs X es t)
    (hn : (assignEach es X.env).length = n := by rfl) (hst : (assignEach es X.env).findIdx? (·.1) = none := by rfl) : PG X (.Tuple es k pos) (gLst X.K n t) := by
  refine ⟨fun pins s σ H v u Q I r hw => ?_⟩
  obtain ⟨a, xs, e1, hq, hl, hw⟩ := hw
  subst e1
  cases r
  obtain ⟨its, rv, ht, hz⟩ := I.list hq
  rw [PyProof.Rows.assign_Tuple]
  refine wpAny_bind (wpAny_standAt ?_)
  unfold unpack
  rw [hn, hst]
  have e : n = its.toArray.size := by simp [← hl, rv.length]
  rw [e]
  refine wpAny_bind (wpAny_holding (unpack_items_list (I.ok.hd hc) ht.isList fun h' hx => ?_))
  have I1 : Inv X pins σ H { s with heap := h' } := I.kept (t' := s.toks) fun b o e => hx b o (Nat.ne_of_lt (Heap.lt_size e)) e
  exact h.run pins _ σ H xs _ Q I1 (by simpa using rv) hw
def tgLst (n : Nat) (h : DTGs) : DTG := fun d ρ q => match d with
  | .list ds => ds.length = n ∧ h ds ρ q
  | _ => False
theorem dg_lst {h : DTGs} {n kk : Nat} (hc : X.calm = true) (h1 : DGs X es ws h) (hn : (assignEach es X.env).length = n := by rfl) (hst : (assignEach es X.env).findIdx? (·.1) = none := by rfl) : DG1 X (.Tuple es kk pos) ws (tgLst n h) := PG.imp (pg_lst hc h1 hn hst) fun v σ H Q ⟨B, ρ, d, q, R, is, t, k⟩ => by
  unfold tgLst at t
  split at t
  · obtain ⟨a, xs, e1, e2, e3⟩ := is.lst'
    exact ⟨a, xs, e1, SqL.of e2, by rw [e3.length]; exact t.1, B, ρ, _, q, R, e3, t.2, k⟩
  · exact t.elim
end

section
variable {X : Cx} {a : Expr} {es : List Expr} {ws : List Nat} {pos : Pos}
theorem PG.or {e : Expr} {t1 t2 : TG} (h1 : PG X e t1) (h2 : PG X e t2) : PG X e (fun v σ H Q => t1 v σ H Q ∨ t2 v σ H Q) := ⟨fun pins s σ H v u Q I r hq => hq.elim (h1.run pins s σ H v u Q I r) (h2.run pins s σ H v u Q I r)⟩
/-- a, b = a tuple or a list -/
def tgSeq (n : Nat) (h : DTGs) : DTG := fun d ρ q => match d with
  | .list ds => ds.length = n ∧ h ds ρ q
  | .tuple ds => ds.length = n ∧ h ds ρ q
  | _ => False
theorem dg_seq {h : DTGs} {n kk : Nat} (hc : X.calm = true) (h1 : DGs X es ws h) (hn : (assignEach es X.env).length = n := by rfl) (hst : (assignEach es X.env).findIdx? (·.1) = none := by rfl) : DG1 X (.Tuple es kk pos) ws (tgSeq n h) := PG.imp (PG.or (dg_tup hc h1 hn hst) (dg_lst hc h1 hn hst)) fun v σ H Q ⟨B, ρ, d, q, R, is, t, k⟩ => by
  unfold tgSeq at t
  split at t
  · exact .inr ⟨B, ρ, _, q, R, is, t, k⟩
  · exact .inl ⟨B, ρ, _, q, R, is, t, k⟩
  · exact t.elim
end

/-! ### dict(zip(xs, ys)) -/
section
variable {X : Cx} {e1 e2 : Expr} {ta : TA} {t : DTA} {p p2 pos pos2 : Pos}
def tDZip (K : PySem.W.Frag) (ta : TA) : TE := fun σ H Q => ta σ H fun vs H1 => ∃ (a b : Addr) (ks : List Key) (ys : List V), vs = [.ref a, .ref b] ∧ SqL K H1 a (ks.map kV) ∧ SqL K H1 b ys ∧ ks.length ≤ sizeLine ∧ ∀ p, H1 p = none → Q (.ref p) (upd H1 p (.dK (mergeK [] (ks.zip ys))))
theorem kv_zip : ∀ {ks : List Key} {us : List Value} {ys : List V} {ws : List Value}, Vals (ks.map kV) us → Vals ys ws → KV (ks.zip ys) (ks.zip ws)
  | [], _, _, _, _, _ => .nil
  | k :: ks, us, [], ws, _, r => by
    cases r
    exact .nil
  | k :: ks, us, y :: ys, ws, q, r => by
    cases r with
    | cons r1 r2 =>
      cases q with
      | cons q1 q2 => exact .cons ⟨rfl, r1⟩ (kv_zip q2 r2)
theorem kv_at {P : Program} {w : World} {ks : List Key} {us ws : List Value} (q : Vals (ks.map kV) us) {i : Nat} {key v : Value} (h1 : us[i]? = some key) (h2 : ws[i]? = some v) : ∃ k, (ks.zip ws)[i]? = some (k, v) ∧ (mixKind P w).is k key = true := by
  obtain ⟨x, h3, r⟩ := rel_get q h1
  rw [List.getElem?_map] at h3
  cases e : ks[i]? with
  | none => rw [e] at h3; cases h3
  | some k =>
    rw [e] at h3
    cases h3
    refine ⟨k, ?_, kV_is r⟩
    rw [List.zip, List.getElem?_zipWith, e, h2]
theorem pe_dzip (hg : Gl X "dict") (hm : X.mg "dict" = none) (hg2 : Gl X "zip") (hm2 : X.mg "zip" = none) (hc : X.calm = true) (ha : PA X [e1, e2] ta)
    (hs : starEach [.Call (.Name "zip" p2) [e1, e2] [] pos2] X.env = (false, eval (.Call (.Name "zip" p2) [e1, e2] [] pos2) X.env) :: starEach [] X.env := by rfl) (hpl : (backTo pos (starEach [] X.env)).any (·.1) = false := by rfl)
    (hs2 : starEach [e1, e2] X.env = (false, eval e1 X.env) :: starEach [e2] X.env := by rfl) (hpl2 : (backTo pos2 (starEach [e2] X.env)).any (·.1) = false := by rfl) :
    PE X (.Call (.Name "dict" p) [.Call (.Name "zip" p2) [e1, e2] [] pos2] [] pos) (tDZip X.K ta) := by
  refine ⟨fun pins s σ H Q I h => ?_⟩
  refine Call_ (ld_blt I hg hm PyProof.Rows.boot_dict (PyProof.Rows.callWith_type1 (PyProof.Rows.spliced_more ?_ hs) hs hpl))
  refine Call_ (ld_blt I hg2 hm2 PyProof.Rows.boot_zip (PyProof.Rows.callWith_type1 (thn (ha.run pos2 pins s σ H _ I h) fun us s1 ⟨vs, H1, I1, r1, q1⟩ => ?_) hs2 hpl2))
  obtain ⟨a, b, ks, ys, ex, hq1, hq2, hl, hQ⟩ := q1
  subst ex
  obtain ⟨v1, v2, eu, r2, r3⟩ : ∃ v1 v2, us = [v1, v2] ∧ RelV (.ref a) v1 ∧ RelV (.ref b) v2 := by
    cases r1 with
    | cons x y =>
      cases y with
      | cons x' y' =>
        cases y'
        exact ⟨_, _, rfl, x, x'⟩
  subst eu
  cases r2
  cases r3
  obtain ⟨its, rv, p1, _⟩ := I1.list hq1
  obtain ⟨its2, rv2, p2, _⟩ := I1.list hq2
  refine call_zip_2 p1.isList p2.isList fun h' hz hTI hTO h1 h2 hsz hk => PyProof.Rows.spliced_none ?_
  have I2 : Inv X pins σ H1 { s1 with heap := h' } := I1.kept (t' := s1.toks) hk
  have n1 : its.length = ks.length := by rw [← rv.length, List.length_map]
  refine PySem.call_dict_pairs (knd := mixKind X.prog X.w) (kvs := ks.zip its2) (PairArg.zip _ _ _ _ _ _ _ (PySem.W.ktu_apart s1.heap.objs.size a b p1.lt p2.lt) its.toArray its2.toArray) (I.ok.hd hc)
    ⟨hz, hTI, ⟨_, _, hTO⟩, h1, h2, p1.isList.at fun o e => hk _ o e, p2.isList.at fun o e => hk _ o e⟩ ⟨?_, fun i key v ⟨g1, g2⟩ => kv_at rv (by simpa using g1) (by simpa using g2)⟩ ?_ fun h'' tk dd k2 => ?_
  · simp [n1]
  · have : min its.toArray.size its2.toArray.size ≤ ks.length := by simp; omega
    omega
  · have lt : s1.heap.objs.size ≤ h'.objs.size := by rw [hsz]; omega
    have kk : ∀ c o, s1.heap.get? c = some o → h''.get? c = some o := fun c o e => by
      refine k2 c o (fun hm => ?_) (hk c o e)
      have hc := Heap.lt_size e
      simp only [List.mem_cons, List.not_mem_nil, or_false] at hm
      have : s1.heap.objs.size ≤ c := by
        rcases hm with rfl | rfl | rfl | rfl <;> first | exact Nat.le_add_right _ _ | exact Nat.le_refl _
      exact absurd hc (Nat.not_lt.mpr this)
    have hn : H1 h'.objs.size = none := I1.hok.fresh lt
    have rel := (kv_zip rv rv2).merge (kvs := []) (vs := []) .nil
    have zz : (mergeK [] (ks.zip ys)).length ≤ sizeLine := by
      have h1 := length_mergeK (ks.zip ys) []
      rw [List.length_nil, List.length_zip] at h1
      omega
    refine ⟨.ref h'.objs.size, _, I1.laid (a := h'.objs.size) (o := .dK (mergeK [] (ks.zip ys))) (t' := tk) kk lt ⟨zz, ?_, _, rel, dd⟩, rfl, hQ _ hn⟩
    exact beq_eq_false_iff_ne.mpr (Ne.symm (Nat.ne_of_lt (Nat.lt_of_lt_of_le I1.big lt)))
/-- the keys of a list -/
def keysD : List PyData → Bool
  | [] => true
  | d :: ds => isKey d && keysD ds
theorem keys_is {O : Addr → Prop} {H : Hp} : ∀ {xs : List V} {ds : List PyData}, IsAll O H xs ds → keysD ds = true → ∃ ks : List Key, xs = ks.map kV ∧ ds = ks.map kD
  | _, _, .nil, _ => ⟨[], rfl, rfl⟩
  | _, _, .cons h t, e => by
    simp only [keysD, Bool.and_eq_true] at e
    obtain ⟨k, rfl, rfl⟩ := key_of_is (.inl h) e.1
    obtain ⟨ks, rfl, rfl⟩ := keys_is t e.2
    exact ⟨k :: ks, rfl, rfl⟩
theorem IsK.zip {O : Addr → Prop} {H : Hp} : ∀ {ks : List Key} {ys : List V} {es : List PyData}, IsAll O H ys es → IsK O H (ks.zip ys) ((ks.map kD).zip es)
  | [], _, _, _ => .nilK
  | _ :: _, _, _, .nil => .nilK
  | _ :: _, _, _, .cons h t => .consK h (IsK.zip t)
theorem IsK.merge {O : Addr → Prop} {H : Hp} : ∀ {more : List (Key × V)} {ms es : List (PyData × PyData)} {kvs : List (Key × V)}, IsK O H more ms → IsK O H kvs es → IsK O H (mergeK kvs more) (dMerge es ms)
  | _, _, _, _, .nilK, h => h
  | (k, v) :: r, (_, d) :: ms, es, kvs, .consK i t, h => IsK.merge (more := r) (ms := ms) (es := dPutD es (kD k) d) (kvs := putK kvs k v) t (h.put k i)
/-- dict(zip(xs, ys)) -/
def fDZip (t : DTA) : DTF := fun ρ q => t ρ fun os ρ1 => tkAll os ρ1 fun ds ρ2 => match ds with
  | [.list xs, .list ys] => keysD xs = true ∧ xs.length ≤ 16777216 ∧ q (.dict (dMerge [] (xs.zip ys))) ρ2
  | _ => False
theorem dfr_dzip (hg : Gl X "dict") (hm : X.mg "dict" = none) (hg2 : Gl X "zip") (hm2 : X.mg "zip" = none) (hc : X.calm = true) (ha : DA X [e1, e2] t)
    (hs : starEach [.Call (.Name "zip" p2) [e1, e2] [] pos2] X.env = (false, eval (.Call (.Name "zip" p2) [e1, e2] [] pos2) X.env) :: starEach [] X.env := by rfl) (hpl : (backTo pos (starEach [] X.env)).any (·.1) = false := by rfl)
    (hs2 : starEach [e1, e2] X.env = (false, eval e1 X.env) :: starEach [e2] X.env := by rfl) (hpl2 : (backTo pos2 (starEach [e2] X.env)).any (·.1) = false := by rfl) :
    DFr X (.Call (.Name "dict" p) [.Call (.Name "zip" p2) [e1, e2] [] pos2] [] pos) (fDZip t) := PE.imp (pe_dzip hg hm hg2 hm2 hc ha hs hpl hs2 hpl2) fun σ H Q ⟨B, ρ, q, R, t, k⟩ => by
  refine ⟨B, ρ, _, R, t, fun os ρ1 vs H1 t1 m1 R1 i1 => ?_⟩
  obtain ⟨ds, ρ2, h2, is, R2, m2⟩ := OAll.tk R1 i1 t1
  split at h2
  · obtain ⟨kd, hl, h3⟩ := h2
    obtain ⟨v1, v2, rfl, j1, j2⟩ := isAll2 is
    obtain ⟨a, xs, rfl, ea, alla⟩ := j1.lst'
    obtain ⟨b, ys, rfl, eb, allb⟩ := j2.lst'
    obtain ⟨ks, rfl, rfl⟩ := keys_is alla kd
    refine ⟨a, b, ks, ys, rfl, SqL.of ea, SqL.of eb, by rw [sizeLine_eq]; simpa using hl, fun p hp => ?_⟩
    obtain ⟨R3, tp, m3⟩ := R2.fresh hp (.dK ((IsK.zip allb).merge .nilK))
    obtain ⟨f1, f2⟩ := R2.entry hp
    exact k _ _ _ _ h3 f1 f2 ((m1.trans m2).trans m3) R3 tp
  · exact h2.elim
end
end DL
namespace DL
open PySem PySem.Spec PyProof.Rows L2

/-! ### data as the kit reads it -/
theorem is_reads {P : Program} {w : World} {O : Addr → Prop} {H : Hp} {h : Heap} (ok : HOk P w H h) {v : V} {d : PyData} (is : Is O H v d) : ∀ u : Value, d.hasDict = false → RelV v u → ∃ as, Reads h u d as := by
  induction is using Is.rec (motive_2 := fun xs ds _ => ∀ us : List Value, PyData.hasDictAll ds = false → Vals xs us → ∃ as, ReadsAll h us ds as) (motive_3 := fun _ _ _ => True) (motive_4 := fun _ _ _ => True) with
  | non => intro u _ r; obtain rfl : u = Value.none := r; exact ⟨_, .none⟩
  | bl b => intro u _ r; obtain rfl : u = Value.bool b := r; exact ⟨_, .bool b⟩
  | int i => intro u _ r; obtain ⟨t, rfl⟩ := r; exact ⟨_, .int i t⟩
  | str x => intro u _ r; obtain ⟨t, rfl⟩ := r; exact ⟨_, .str x t⟩
  | lst n e all ih =>
    intro u hd r
    cases r
    obtain ⟨z, its, m, rv, q⟩ := ok _ _ e
    obtain ⟨as, ra⟩ := ih its (by simpa only [PyData.hasDict] using hd) rv
    exact ⟨_, .list q rfl rfl ra⟩
  | tup e all ih =>
    intro u hd r
    cases r
    obtain ⟨z, its, rv, o, q, c, m, dt⟩ := (show ObjOk P w H h _ (.tup _) from ok _ _ e)
    obtain ⟨as, ra⟩ := ih its (by simpa only [PyData.hasDict] using hd) rv
    exact ⟨_, .tuple q c dt ra⟩
  | dK n r all ih => intro u hd _; simp [PyData.hasDict] at hd
  | dT n r all ih => intro u hd _; simp [PyData.hasDict] at hd
  | nil =>
    first
      | exact ⟨_, .nil⟩
      | (rename_i r; cases r; exact ⟨_, .nil⟩)
      | (intro us _ r; cases r; exact ⟨_, .nil⟩)
  | cons a b iha ihb =>
    rename_i us hd r
    simp only [PyData.hasDictAll, Bool.or_eq_false_iff] at hd
    cases r with
    | cons r1 r2 =>
      obtain ⟨as, ra⟩ := iha _ hd.1 r1
      obtain ⟨bs, rb⟩ := ihb _ hd.2 r2
      exact ⟨_, .cons ra rb⟩
  | nilK => trivial
  | consK _ _ _ _ => trivial
  | nilT => trivial
  | consT _ _ _ _ => trivial

/-! ### repr -/
def rReprD : List V → Hp → VK → Prop := fun xs H Q => ∃ v d, xs = [v] ∧ RdX H v d ∧ d.showable = true ∧ d.hasDict = false ∧ d.depth ≤ 60 ∧ d.shown.length ≤ sizeLine ∧ Q (.str d.shown) H
theorem call_reprD {X : Cx} (hg0 : X.A.guards = some []) (hu : X.A.units + 64 < cLine) : CallR X (.builtin "repr") rReprD := by
  intro pins s σ H xs us Q I rs h
  obtain ⟨v, d, rfl, ⟨O, is⟩, hs, hd, hp, hz, q⟩ := h
  obtain ⟨u, rfl, r⟩ : ∃ u, us = [u] ∧ RelV v u := by
    cases rs with
    | cons a b => cases b; exact ⟨_, rfl, a⟩
  obtain ⟨as, rd⟩ := is_reads I.hok is u hd r
  have fin : ∀ (d : PyData) (h' : Heap) (t : Tok) (tk : Nat), (∀ b o, s.heap.get? b = some o → h'.get? b = some o) → Q (.str d.shown) H → EP X pins σ Q (.str d.shown t) { s with heap := h', toks := tk } := fun d h' t tk k q => ⟨.str d.shown, H, I.kept k, ⟨t, rfl⟩, q⟩
  have fin0 : ∀ (z : Str) (t : Tok), Q (.str z) H → EP X pins σ Q (.str z t) { s with toks := s.toks + 1 } := fun z t q => ⟨.str z, H, I.tok _, ⟨t, rfl⟩, q⟩
  cases rd with
  | none =>
    simp only [PyData.shown] at hz q
    exact P.repr_of_none (fin0 _ _ q)
  | bool b =>
    simp only [PyData.shown] at hz q
    exact P.repr_of_bool (fin0 _ _ q)
  | int i t =>
    simp only [PyData.shown] at hz q
    exact P.repr_of_int (by simpa [PyData.showable] using hs) (fin0 _ _ q)
  | str x t =>
    simp only [PyData.shown] at hz q
    exact P.repr_of_str (fin0 _ _ q) hz
  | list h1 h2 h3 h4 => exact repr_of_reads' (.list h1 h2 h3 h4) hs (PyData.noDict_hsm hd) hg0 (by omega) (fun _ _ e => e) (fun h' t tk k => fin _ h' t tk k q) hz
  | tuple h1 h2 h3 h4 => exact repr_of_reads' (.tuple h1 h2 h3 h4) hs (PyData.noDict_hsm hd) hg0 (by omega) (fun _ _ e => e) (fun h' t tk k => fin _ h' t tk k q) hz
  | dict h1 h2 h3 h4 h5 => simp [PyData.hasDict] at hd
/-- it may be shown -/
def Shows (d : PyData) : Prop := d.showable = true ∧ d.hasDict = false ∧ d.depth ≤ 60 ∧ d.shown.length ≤ 16777216
section
variable {X : Cx} {a b c e : Expr} {es : List Expr} {ta tb tc : DT} {pos : Pos} {x : Str} {p : Pos}
def dRepr (ta : DT) : DT := fun ρ q => ta ρ fun o ρ1 => o.rdx ρ1 fun d => Shows d ∧ q (.vl (.str d.shown)) ρ1
theorem do_repr (hg0 : X.A.guards = some []) (hu : X.A.units + 64 < cLine) (hg : Gl X "repr") (hm : X.mg "repr" = none) (ha : DO X e ta) (he : starEach [e] X.env = (false, eval e X.env) :: starEach [] X.env := by rfl) :
    DO X (.Call (.Name "repr" p) [e] [] pos) (dRepr ta) := PE.imp (pe_callB (call_reprD hg0 hu) hg hm (by decide +kernel) (pa_cons ha pa_nil he) (by decide) (by decide) he) fun σ H Q ⟨B, ρ, q, R, t, k⟩ => by
  refine ⟨B, ρ, _, R, t, fun o ρ1 v H1 t1 m1 R1 i1 => ?_⟩
  obtain ⟨d, ⟨⟨s1, s2, s3, s4⟩, h2⟩, rd⟩ := i1.rdx R1 t1
  exact ⟨v, d, rfl, rd, s1, s2, s3, by rw [sizeLine_eq]; exact s4, k _ _ _ _ h2 m1 R1 (.str _)⟩
end

/-! ### defs that ask that no repr runs -/
structure FnG (P : Program) (w : World) (K : PySem.W.Frag) (mg : Str → Option Value) (base : Heap) (k : Nat) (f : Addr) (fd : FuncData) (ps : List Str) (sp : Sp) : Prop where
  len : ∀ vs H Q E, sp vs H Q E → vs.length = ps.length
  run : ∀ (A : Around) (outer : List Env) (s : Shared) (H : Hp) (args : Args) (us : List Value) (vs : List V) (Q : VK) (E : XK), A.guards = some [] → Room k A → Env0 P w K mg base A outer s H →
    BindsTo s fd args (ps.zip us) → Vals vs us → sp vs H Q E → codeAny (model P w) A (.call (.ref f) args) (CR CX0 outer P w H s Q E) s
section
variable {P : Program} {w : World} {K : PySem.W.Frag} {mg : Str → Option Value} {base : Heap} {x qual : Str} {params : Arguments} {body : List Stmt} {scope : Scope} {f : Addr} {fd : FuncData}
theorem FnOk.toG {k : Nat} {ps : List Str} {sp : Sp} (F : FnOk P w K mg base CX0 k f fd ps sp) : FnG P w K mg base k f fd ps sp :=
  ⟨F.len, fun A outer s H args us vs Q E _ hr e0 hb hv hs => F.run A outer s H args us vs Q E hr e0 hb hv hs⟩
theorem fnG_of {N ps : List Str} {k : Nat} {sp : Sp} (Fn : FunD K x qual params body scope [] [] f fd) (S : FnScope N ps scope) (len : ∀ vs H Q E, sp vs H Q E → vs.length = ps.length)
    (hb : ∀ (cdv : Value) (A : Around) (outer : List Env) (s : Shared) (H : Hp) (vs : List V) (Q : VK) (E : XK), (A.deeper (envOfC qual scope s.heap.objs.size f cdv)).guards = some [] → Room k (A.deeper (envOfC qual scope s.heap.objs.size f cdv)) → sp vs H Q E →
      ∃ t, PSs (cxOf CX0 P w K mg base N qual scope f cdv A outer s H E) body t ∧ t { nx := fun _ H' => Q .non H', rt := Q } (L2.start N vs) H) : FnG P w K mg base (k + 1) f fd ps sp := by
  obtain ⟨oc, od, dV, kV, doc, pm, an, cdv, ct, osl, rfl, lk, code, _, _⟩ := Fn.ex
  refine ⟨len, fun A outer s H args us vs Q E gd room e0 bd rel want => ?_⟩
  have vl := len _ _ _ _ want
  have there : ∀ b o, base.get? b = some o → s.heap.get? b = some o := fun b o e => (e0.bs b o e).1
  have inK : K.In s.heap := e0.mod.kin.keeps there
  have names : ∀ y ∈ ps.zip us, scope.names.lookup y.1 = some .local ∨ (scope.names.lookup y.1 = some .cell ∧ ((cellsFrom (s.heap.objs.size + 1) scope.names []).lookup y.1).isSome = true) := by
    rintro ⟨y, v⟩ hy
    refine (S.par y (List.of_mem_zip hy).1).imp id fun q => ⟨q, ?_⟩
    exact PySem.W.cellsFrom_some _ _ _ (.inl q)
  refine codeAny_call_function room.depth (inK _ _ lk) rfl S.co S.gen rfl (PySem.W.codeRec_of inK code) (bd _ _ _ _ ?_)
  refine wpAny_newFunctionEnv_cells S.kind names fun env ee s1 st => ?_
  subst ee
  refine ⟨(e0.mod.nolimit.keeps there).keeps st.toInCall.keep, codeAny_func ?_⟩
  have I := inv_start (CX := CX0) (P := P) (w := w) (K := K) (mg := mg) (base := base) (E := E) S room.hd e0 vl rel st
  obtain ⟨t, ht, start⟩ := hb cdv A outer s H vs Q E gd (room.deeper _) want
  refine wpAny_mono (ht.run [] s1 (L2.start N vs) H _ I start) (fun fl s' z => ?_) fun e s' z => z
  cases fl with
  | ret u =>
    obtain ⟨v, σ', H', J, rv, q⟩ := z
    exact (⟨v, H', J.os, J.bare, J.base, J.hok, rv, q⟩ : CE outer P w H s Q u s')
  | next =>
    obtain ⟨σ', H', J, q⟩ := z
    exact (⟨.non, H', J.os, J.bare, J.base, J.hok, rfl, q⟩ : CE outer P w H s Q Value.none s')
  | brk => exact (let ⟨_, _, _, q⟩ := z; False.elim q)
  | cont => exact (let ⟨_, _, _, q⟩ := z; False.elim q)
theorem okDG {N ps : List Str} {k n : Nat} {m : Bool} {F : DF} {t : DTS} (Fn : FunD K x qual params body scope [] [] f fd) (S : FnScope N ps scope) (hn : ps.length = n)
    (hb : ∀ (cdv : Value) (A : Around) (outer : List Env) (s : Shared) (H : Hp) (E : XK), (A.deeper (envOfC qual scope s.heap.objs.size f cdv)).guards = some [] → Room k (A.deeper (envOfC qual scope s.heap.objs.size f cdv)) →
      DSs (cxOf CX0 P w K mg base N qual scope f cdv A outer s H E).nox body t)
    (hF : ∀ ds q a, ds.length = n → F ds q → t (endsD m a q) (startD m a N.length ds)) : FnG P w K mg base (k + 1) f fd ps (spD m n F) :=
  fnG_of Fn S (fun vs H Q E h => h.1.trans hn.symm) fun cdv A outer s H vs Q E gd hr want => ⟨upS t, PSs.nox (hb cdv A outer s H E gd hr), spD_up S hn hF want⟩
end
section
variable {X : Cx} {a b c e : Expr} {es : List Expr} {ta tb tc : DT} {t : DTA} {pos : Pos} {x : Str} {p : Pos} {k n : Nat} {f : Addr} {fd : FuncData} {ps : List Str} {F : DF}
theorem pe_callG {sp : Sp} {tr : TA} (F : FnG X.prog X.w X.K X.mg X.base k f fd ps sp) (gd : X.A.guards = some []) (hr : Room k X.A) (hg : Gl X x) (hm : X.mg x = some (.ref f)) (hk : PySem.W.keepIn X.K (.ref f) = true) (hb : Binds X.K fd ps [])
    (ha : PA X (e :: es) tr) (hdb : (x == ("__debug__" : Str)) = false) (he : starEach (e :: es) X.env = (false, eval e X.env) :: starEach es X.env) (hpl : (backTo pos (starEach es X.env)).any (·.1) = false) :
    PE X (.Call (.Name x p) (e :: es) [] pos) (tCall sp [] E0 tr) := by
  refine ⟨fun pins s σ H Q I h => wpAny_Call_Name_kw (ld_glob I hg hm ?_ hdb)⟩
  refine PySem.W.callWith_K (h₀ := X.base) I.ok.mod.kin hk (thn (ha.run pos pins s σ H _ I h) fun us s1 ⟨vs, H1, J, rel, want⟩ => ⟨J.kIn, ?_⟩) he hpl
  have hl : us.length = ps.length := by
    have := F.len _ _ _ _ want
    rw [List.append_nil] at this
    rw [← rel.length, this]
  dsimp only at want
  rw [List.append_nil] at want
  have bd := hb s1 us J.kIn (by rw [List.append_nil]; exact hl)
  rw [List.append_nil] at bd
  refine wpAny_call (codeAny_mono (F.run X.A X.stack s1 H1 ⟨us, []⟩ us vs Q E0 gd hr J.env0 bd rel want) fun r s' z => ?_)
  match r, z with
  | .error e, z => exact pass0 pins σ H1 s1 e s' J z
  | .ok (.ret u), z => exact J.after z
  | .ok .next, z => exact False.elim z
  | .ok .brk, z => exact False.elim z
  | .ok .cont, z => exact False.elim z
theorem do_callG (G : FnG X.prog X.w X.K X.mg X.base k f fd ps (spD false n F)) (gd : X.A.guards = some []) (hr : Room k X.A) (hg : Gl X x) (hm : X.mg x = some (.ref f)) (hk : PySem.W.keepIn X.K (.ref f) = true) (hb : Binds X.K fd ps [])
    (ha : DA X (e :: es) t) (hdb : (x == ("__debug__" : Str)) = false := by decide) (he : starEach (e :: es) X.env = (false, eval e X.env) :: starEach es X.env := by rfl) (hpl : (backTo pos (starEach es X.env)).any (·.1) = false := by rfl) :
    DO X (.Call (.Name x p) (e :: es) [] pos) (dCall n F t) := PE.imp (pe_callG G gd hr hg hm hk hb ha hdb he hpl) fun _ _ _ h => upCall h
theorem do_callMG (G : FnG X.prog X.w X.K X.mg X.base k f fd ps (spD true n F)) (gd : X.A.guards = some []) (hr : Room k X.A) (hg : Gl X x) (hm : X.mg x = some (.ref f)) (hk : PySem.W.keepIn X.K (.ref f) = true) (hb : Binds X.K fd ps [])
    (ha : DA X (e :: es) t) (hdb : (x == ("__debug__" : Str)) = false := by decide) (he : starEach (e :: es) X.env = (false, eval e X.env) :: starEach es X.env := by rfl) (hpl : (backTo pos (starEach es X.env)).any (·.1) = false := by rfl) :
    DO X (.Call (.Name x p) (e :: es) [] pos) (dCallM n F t) := PE.imp (pe_callG G gd hr hg hm hk hb ha hdb he hpl) fun _ _ _ h => upCallM h
end

/-! ### f(b = .., a = ..): two keywords, turned round; f(a = ..) -/
section
variable {X : Cx} {e : Expr} {ta : DT} {t : DTA} {kws : List Keyword} {pos kpos p : Pos} {nm : Option Str} {x x1 x2 : Str} {k : Nat} {f : Addr} {fd : FuncData} {F : DF}
abbrev DK (X : Cx) (kws : List Keyword) (t : DTA) : Prop := PK X kws (upA t)
theorem dk_nil : DK X [] dNil := ⟨fun pos pins s σ H Q I ⟨B, ρ, q, R, t, k⟩ => pk_nil.run pos pins s σ H Q I (k _ _ _ _ t .refl R .nil)⟩
theorem PK.imp {t t' : TA} (h : PK X kws t) (i : ∀ σ H Q, t' σ H Q → t σ H Q) : PK X kws t' := ⟨fun pos pins s σ H Q I hq => h.run pos pins s σ H Q I (i σ H Q hq)⟩
theorem dk_cons (ha : DO X e ta) (hr : DK X kws t) : DK X (⟨nm, e, kpos⟩ :: kws) (dCons ta t) := PK.imp (pk_cons ha hr) fun σ H Q ⟨B, ρ, q, R, t, k⟩ => by
  refine ⟨B, ρ, _, R, t, fun o ρ1 v H1 t1 m1 R1 i1 => ⟨B, ρ1, _, R1, t1, fun os ρ2 vs H2 t2 m2 R2 i2 => ?_⟩⟩
  exact k _ _ _ _ t2 (m1.trans m2) R2 (.cons (i1.adv m2) i2)
theorem pe_kws {sp : Sp} {tr : TA} {ps ks : List Str} {g : List Value → List Value} {gV : List V → List V} (G : FnOk X.prog X.w X.K X.mg X.base CX0 k f fd ps sp) (hr : Room k X.A) (hg : Gl X x) (hm : X.mg x = some (.ref f)) (hk : PySem.W.keepIn X.K (.ref f) = true)
    (hb : KBn X.K fd ps 0 ks (fun _ ws => g ws) (fun _ zs => gV zs)) (hkw : PK X kws tr) (hall : (backToKw pos (keywordEach kws X.env)).all (·.1.isSome) = true) (hks : (backToKw pos (keywordEach kws X.env)).filterMap (·.1) = ks)
    (hdb : (x == ("__debug__" : Str)) = false) (hpl : ((backTo pos (starEach [] X.env)).any (·.1) || (backToKw pos (keywordEach kws X.env)).any (·.1.isNone)) = false) :
    PE X (.Call (.Name x p) [] kws pos) (fun σ H Q => tr σ H fun zs H1 => zs.length = ks.length ∧ sp (gV zs) H1 Q E0) := by
  refine ⟨fun pins s σ H Q I h => wpAny_Call_Name_kw (ld_glob I hg hm ?_ hdb)⟩
  refine PySem.W.callWith_KW0 (h₀ := X.base) I.ok.mod.kin hk hall (thn (hkw.run pos pins s σ H _ I h) fun ws s1 ⟨zs, H1, J, rel, zl, want⟩ => ⟨J.kIn, ?_⟩) hpl
  rw [hks]
  exact run_fnN (us := []) (vs := []) G hr hb pass0 J .nil rel rfl zl want
/-- the keywords' data, turned round -/
def dKw2 (F : DF) (t : DTA) : DT := fun ρ q => t ρ fun os ρ1 => os.length = 2 ∧ rdAll os ρ1 fun ds => F ds.reverse fun d _ => (flat d = true ∨ noOwn ρ1 os = true) ∧ q (.vl d) ρ1
theorem IsAll.rev {O : Addr → Prop} {H : Hp} {vs : List V} {ds : List PyData} (h : IsAll O H vs ds) : IsAll O H vs.reverse ds.reverse := h.reverse
theorem do_kw2 {ps : List Str} (G : FnOk X.prog X.w X.K X.mg X.base CX0 k f fd ps (spD false 2 F)) (hr : Room k X.A) (hg : Gl X x) (hm : X.mg x = some (.ref f)) (hk : PySem.W.keepIn X.K (.ref f) = true)
    (hb : KBn X.K fd ps 0 [x1, x2] (fun _ ws => ws.reverse) (fun _ zs => zs.reverse)) (hkw : DK X kws t) (hall : (backToKw pos (keywordEach kws X.env)).all (·.1.isSome) = true := by rfl) (hks : (backToKw pos (keywordEach kws X.env)).filterMap (·.1) = [x1, x2] := by rfl)
    (hdb : (x == ("__debug__" : Str)) = false := by decide) (hpl : ((backTo pos (starEach [] X.env)).any (·.1) || (backToKw pos (keywordEach kws X.env)).any (·.1.isNone)) = false := by rfl) :
    DO X (.Call (.Name x p) [] kws pos) (dKw2 F t) := PE.imp (pe_kws G hr hg hm hk hb hkw hall hks hdb hpl) fun σ H Q ⟨B, ρ, q, R, t, k⟩ => by
  refine ⟨B, ρ, _, R, t, fun os ρ1 vs H1 t1 m1 R1 i1 => ?_⟩
  obtain ⟨hl, t1⟩ := t1
  obtain ⟨ds, h1, is⟩ := OAll.args (P := ownArgs ρ1 os) R1 (fun o ho b z => ⟨o, ho, z⟩) i1 t1
  refine ⟨(Paired.length i1).trans hl, by rw [List.length_reverse, Paired.length i1, hl], fun b => OW B ρ1 b ∧ ¬ ownArgs ρ1 os b, ds.reverse, _, fun a z => R1.ow z.1, h1, ?_⟩
  rw [if_neg Bool.false_ne_true]
  refine ⟨is.reverse, fun d e v H' hq hs hv => k _ _ _ _ hq.2 (m1.trans (.same hs)) (R1.same hs) ?_⟩
  rcases hq.1 with hf | hf
  · exact hv.flat_any hf
  · exact hv.mono (Adv.sub fun b z => ⟨z, noOwn_not hf b⟩)
theorem rel_rev : ∀ {vs : List V} {us : List Value}, Vals vs us → Vals vs.reverse us.reverse
  | _, _, .nil => .nil
  | _, _, .cons r t => by
    rw [List.reverse_cons, List.reverse_cons]
    exact (rel_rev t).append (.cons r .nil)
theorem kbinds2 {K : PySem.W.Frag} {qual : Str} {params : Arguments} {body : List Stmt} {scope : Scope} {kws : List (Str × V)} {p1 p2 : Str} (Fn : FunD K x qual params body scope [] kws f fd)
    (h : ∀ (kV doc pm : Value) (an : Option Addr) (cdv ct a b : Value), bindArgs (PySem.W.fnOf x qual params body scope .none kV doc pm an cdv ct) ⟨[], [(p2, a), (p1, b)]⟩ = pure [(p1, b), (p2, a)]) :
    KBn K fd [p1, p2] 0 [p2, p1] (fun _ ws => ws.reverse) (fun _ zs => zs.reverse) := by
  obtain ⟨oc, od, dV, kV, doc, pm, an, cdv, ct, osl, rfl, lk, code, hD, _⟩ := Fn.ex
  rcases hD with ⟨_, rfl⟩ | ⟨e, _⟩
  · refine ⟨fun s us ws _ hu hl => ?_, fun _ r => rel_rev r⟩
    obtain rfl := List.eq_nil_of_length_eq_zero hu
    obtain ⟨a, b, rfl⟩ : ∃ a b, ws = [a, b] := by
      match ws with
      | [] => simp at hl
      | [a] => simp at hl
      | [a, b] => exact ⟨a, b, rfl⟩
      | a :: b :: c :: r => simp at hl
    exact .of_eq (h kV doc pm an cdv ct a b)
  · exact absurd rfl e
end

/-! ### a law's end -/
/-- the def of a law keeps its promise at the script, the def asking that no repr runs -/
theorem law_runs {P : Program} {w : World} {K : PySem.W.Frag} {mg mb : Str → Option Value} {k : Nat} {fa a : Addr} {fd : FuncData} {x : Str} {sp : Sp} {s1 : Shared} {vs : List Value} {ns : List Int}
    (inK : K.In s1.heap) (gl : s1.heap.Ns mainGlobals mg) (bl : s1.heap.Ns builtinsNs mb) (blt : ∀ x : Str, x ≠ "__name__" → mb x = bootBuiltins x) (lim : s1.heap.NoLimit) (gs : s1.gens = #[])
    (at_ : s1.heap.get? a = some { cls := .type "list", data := .seq vs.toArray }) (intv : IntsAre vs ns) (small : ns.length ≤ sizeLine) (room : Room k callerA)
    (F : ∀ base : Heap, K.In base → base.Ns mainGlobals mg → FnG P w K mg base k fa fd [x] sp) (bind : ∀ (s : Shared) (u : Value), BindsTo s fd ⟨[u], []⟩ [(x, u)])
    (keeps : ∀ H : Hp, L2.Only H → SqL K H a (ns.map V.int) → sp [.ref a] H (fun v _ => v = .bl true) fun _ _ _ => False) :
    codeAny (model P w) callerA (.call (.ref fa) ⟨[.ref a], []⟩) (fun r s' => r = .ok (.ret (.bool true)) ∧ OldK s1.heap s'.heap ∧ s'.os = s1.os ∧ AllBare s'.gens) s1 := by
  have rel := vals_ints intv
  -- the abstract heap: the script is tracked, or it is one of the module's own objects
  obtain ⟨H, only, seq, ok, here, out⟩ : ∃ H : Hp, L2.Only H ∧ SqL K H a (ns.map V.int) ∧ HOk P w H s1.heap ∧ (∀ b, H b ≠ none → b = a) ∧ (H a ≠ none → K.lookup a = none) := by
    by_cases kl : ∃ o, K.lookup a = some o
    · obtain ⟨o, kl⟩ := kl
      have eo := inK a o kl
      rw [at_] at eo
      cases eo
      exact ⟨fun _ => none, fun _ => .inl rfl, .inr ⟨_, vs.toArray, _, kl, rfl, rfl, rfl, by rw [List.size_toArray, intv.length]; exact small, by simpa using rel⟩, fun b u e => absurd e (by simp), fun b e => absurd rfl e, fun e => absurd rfl e⟩
    · have kn : K.lookup a = none := by
        cases q : K.lookup a with
        | none => rfl
        | some o => exact absurd ⟨o, q⟩ kl
      refine ⟨upd (fun _ => none) a (.frz { cls := .type "list", data := .seq vs.toArray } (.lst (ns.map V.int))), fun b => ?_, .inl (.inr ⟨_, upd_same⟩), fun b u e => ?_, fun b e => ?_, fun _ => kn⟩
      · by_cases q : b = a
        · subst q; exact .inr ⟨_, _, upd_same⟩
        · exact .inl (upd_ne q)
      · by_cases q : b = a
        · subst q
          rw [upd_same] at e
          cases e
          exact ⟨at_, by rw [List.length_map]; exact small, vs, _, rel, at_⟩
        · rw [upd_ne q] at e
          cases e
      · refine Classical.byContradiction fun q => e ?_
        rw [upd_ne q]
  have off : ∀ {b : Addr} {o : Obj}, s1.heap.get? b = some o → b ≠ a → (hidT s1.heap H).get? b = some o := fun {b o} e ne1 => hidT_get e (Classical.byContradiction fun q => ne1 (here b q))
  have ns_ : ∀ {b : Addr} {m : Str → Option Value}, s1.heap.Ns b m → (hidT s1.heap H).Ns b m := fun {b m} ⟨o, es, ep, e, d, r⟩ => by
    refine ⟨o, es, ep, off e ?_, d, r⟩
    rintro rfl
    rw [at_] at e
    cases e
    cases d
  have kb : K.In (hidT s1.heap H) := fun b o e => by
    refine hidT_get (inK b o e) (Classical.byContradiction fun q => ?_)
    obtain rfl := here b q
    rw [out q] at e
    cases e
  have lim2 : (hidT s1.heap H).NoLimit := by
    obtain ⟨mc, h1, h2⟩ := lim
    exact ⟨mc, ns_ h1, h2⟩
  have e0 : Env0 P w K mg (hidT s1.heap H) callerA [] s1 H :=
    { frames := rfl, mod := ⟨kb, ns_ gl, ⟨mb, ns_ bl, blt⟩, lim2⟩, bs := fun b o e => of_hidT e, bsz := Nat.le_of_eq (hidT_size _ _), funs := trivial, frf := fun b hb => by simp [frs] at hb, hok := ok, bare := .of_eq gs }
  refine codeAny_mono ((F _ kb (ns_ gl)).run callerA [] s1 H ⟨[.ref a], []⟩ [.ref a] [.ref a] _ _ rfl room e0 (bind s1 (.ref a)) (.cons rfl .nil) (keeps H only seq)) fun r s' z => ?_
  match r, z with
  | .error e, z => exact False.elim z
  | .ok .next, z => exact False.elim z
  | .ok .brk, z => exact False.elim z
  | .ok .cont, z => exact False.elim z
  | .ok (.ret u), z =>
    obtain ⟨v, H', os, bare, un, ok', rv, q⟩ := z
    obtain rfl : v = V.bl true := q
    obtain rfl : u = Value.bool true := rv
    refine ⟨rfl, OldK.of_keep fun b o e => ?_, os, bare⟩
    rcases only b with q | ⟨ob, xs, q⟩
    · exact un.keep b o e q (by intro z; simp [frs] at z) (by simp)
    · obtain ⟨e1, _⟩ := ok b _ q
      obtain ⟨e2, _⟩ := ok' b _ (un.frzs b ob _ q)
      rw [e] at e1
      cases e1
      exact e2
theorem walk_ofG {l : PySem.W.OpenLaw} {n k : Nat} {q : Program} {loose : List Str} {XP : (Str → Option Value) → Heap → Prop} {YP : World → Heap → Prop} {d : DefRec} {x : Str}
    (most : l.most = some n) (small : n ≤ sizeLine) (nodef : d.params.defaults = []) (room : Room k callerA)
    (F : ∀ (w : World) (mg : Str → Option Value) (fa : Addr) (h : Heap), YP w h → h.Ns mainGlobals mg → mg d.name = some (.ref fa) →
      ∃ (K : PySem.W.Frag) (fd : FuncData) (sp : Sp), K.In h ∧ (∀ (s : Shared) (u : Value), BindsTo s fd ⟨[u], []⟩ [(x, u)]) ∧
        (∀ (H : Hp) (a : Addr) (ns : List Int), ns.length ≤ n → L2.Only H → SqL K H a (ns.map V.int) → sp [.ref a] H (fun v _ => v = .bl true) fun _ _ _ => False) ∧
        ∀ base : Heap, K.In base → base.Ns mainGlobals mg → FnG l.prog w K mg base k fa fd [x] sp) :
    PySem.W.WalkO q loose XP YP l.row.toRowW d [] (fun f vs => PySem.call f vs) := by
  refine Att.attach_call most nodef fun w s0 s1 mg mb fa o pm cd doc a vs ns G Y _ _ _ glob hobj hintv hlen hgens => ?_
  obtain ⟨K, fd, sp, inK, bind, keeps, prom⟩ := F w mg fa _ Y G.T.g glob
  exact law_runs inK G.T.g G.T.b G.T.builtins G.T.nolimit hgens hobj hintv (Nat.le_trans hlen small) room prom bind fun H only seq => keeps H a ns hlen only seq
end DL
namespace DL
open PySem PySem.Spec PyProof.Rows L2

/-! ### what a call returns is new where no list of it is as an argument's list -/
mutual
/-- the lists and dicts within -/
def nodes : PyData → List PyData
  | .none => []
  | .bool _ => []
  | .int _ => []
  | .str _ => []
  | .list xs => .list xs :: nodesL xs
  | .tuple xs => nodesL xs
  | .dict kvs => .dict kvs :: nodesK kvs
def nodesL : List PyData → List PyData
  | [] => []
  | x :: xs => nodes x ++ nodesL xs
def nodesK : List (PyData × PyData) → List PyData
  | [] => []
  | (_, v) :: r => nodes v ++ nodesK r
end
theorem rd_dK {H : Hp} {a : Addr} {u v : List (Key × V)} (h : Rd H a (.dK u)) (h' : Rd H a (.dK v)) : u = v := by
  rcases h with h | ⟨o, h⟩ <;> rcases h' with h' | ⟨o', h'⟩ <;> rw [h] at h' <;> cases h' <;> rfl
theorem rd_dT {H : Hp} {a : Addr} {u v : List (List Key × V)} (h : Rd H a (.dT u)) (h' : Rd H a (.dT v)) : u = v := by
  rcases h with h | ⟨o, h⟩ <;> rcases h' with h' | ⟨o', h'⟩ <;> rw [h] at h' <;> cases h' <;> rfl
theorem rd_KT {H : Hp} {a : Addr} {u : List (Key × V)} {v : List (List Key × V)} (h : Rd H a (.dK u)) (h' : Rd H a (.dT v)) : False := by
  rcases h with h | ⟨o, h⟩ <;> rcases h' with h' | ⟨o', h'⟩ <;> rw [h] at h' <;> cases h'
theorem rd_lK {H : Hp} {a : Addr} {xs : List V} {u : List (Key × V)} (h : H a = some (.lst xs)) (h' : Rd H a (.dK u)) : False := by
  rcases h' with h' | ⟨o', h'⟩ <;> rw [h] at h' <;> cases h'
theorem rd_lT {H : Hp} {a : Addr} {xs : List V} {u : List (List Key × V)} (h : H a = some (.lst xs)) (h' : Rd H a (.dT u)) : False := by
  rcases h' with h' | ⟨o', h'⟩ <;> rw [h] at h' <;> cases h'
theorem rd_tK {H : Hp} {a : Addr} {xs : List V} {u : List (Key × V)} (h : H a = some (.tup xs)) (h' : Rd H a (.dK u)) : False := by
  rcases h' with h' | ⟨o', h'⟩ <;> rw [h] at h' <;> cases h'
theorem rd_tT {H : Hp} {a : Addr} {xs : List V} {u : List (List Key × V)} (h : H a = some (.tup xs)) (h' : Rd H a (.dT u)) : False := by
  rcases h' with h' | ⟨o', h'⟩ <;> rw [h] at h' <;> cases h'
/-- a value tells one data -/
theorem Is.det {O O' : Addr → Prop} {H : Hp} {v : V} {d : PyData} (h : Is O H v d) : ∀ {e : PyData}, Is O' H v e → d = e := by
  induction h using Is.rec (motive_2 := fun xs ds _ => ∀ {es : List PyData}, IsAll O' H xs es → ds = es) (motive_3 := fun xs ds _ => ∀ {es : List (PyData × PyData)}, IsK O' H xs es → ds = es) (motive_4 := fun xs ds _ => ∀ {es : List (PyData × PyData)}, IsT O' H xs es → ds = es) with
  | non => intro e h; cases h; rfl
  | bl b => intro e h; cases h; rfl
  | int i => intro e h; cases h; rfl
  | str x => intro e h; cases h; rfl
  | lst n r all ih =>
    intro e h
    cases h with
    | lst n' r' all' =>
      rw [r] at r'
      cases r'
      rw [ih all']
    | tup r' all' => rw [r] at r'; cases r'
    | dK n' r' all' => exact (rd_lK r r').elim
    | dT n' r' all' => exact (rd_lT r r').elim
  | tup r all ih =>
    intro e h
    cases h with
    | lst n' r' all' => rw [r] at r'; cases r'
    | tup r' all' =>
      rw [r] at r'
      cases r'
      rw [ih all']
    | dK n' r' all' => exact (rd_tK r r').elim
    | dT n' r' all' => exact (rd_tT r r').elim
  | dK n r all ih =>
    intro e h
    cases h with
    | lst n' r' all' => exact (rd_lK r' r).elim
    | tup r' all' => exact (rd_tK r' r).elim
    | dK n' r' all' =>
      obtain rfl := rd_dK r r'
      rw [ih all']
    | dT n' r' all' => exact (rd_KT r r').elim
  | dT n r all ih =>
    intro e h
    cases h with
    | lst n' r' all' => exact (rd_lT r' r).elim
    | tup r' all' => exact (rd_tT r' r).elim
    | dK n' r' all' => exact (rd_KT r' r).elim
    | dT n' r' all' =>
      obtain rfl := rd_dT r r'
      rw [ih all']
  | nil => first | (rename_i h; cases h; rfl) | (intro es h; cases h; rfl)
  | cons a b iha ihb =>
    rename_i h
    cases h with
    | cons x y => rw [iha x, ihb y]
  | nilK => first | (rename_i h; cases h; rfl) | (intro es h; cases h; rfl)
  | consK a b iha ihb =>
    rename_i h
    cases h with
    | consK x y => rw [iha x, ihb y]
  | nilT => first | (rename_i h; cases h; rfl) | (intro es h; cases h; rfl)
  | consT a b iha ihb =>
    rename_i h
    cases h with
    | consT x y => rw [iha x, ihb y]
/-- the same data, the own containers told anew by the lists and dicts that it has -/
theorem Is.reO {O O' : Addr → Prop} {H : Hp} {v : V} {d : PyData} (h : Is O H v d) : (∀ b l, l ∈ nodes d → Is O H (.ref b) l → ¬ O' b) → Is O' H v d := by
  induction h using Is.rec (motive_2 := fun xs ds _ => (∀ b l, l ∈ nodesL ds → Is O H (.ref b) l → ¬ O' b) → IsAll O' H xs ds) (motive_3 := fun xs ds _ => (∀ b l, l ∈ nodesK ds → Is O H (.ref b) l → ¬ O' b) → IsK O' H xs ds) (motive_4 := fun xs ds _ => (∀ b l, l ∈ nodesK ds → Is O H (.ref b) l → ¬ O' b) → IsT O' H xs ds) with
  | non => intro _; exact .non
  | bl b => intro _; exact .bl b
  | int i => intro _; exact .int i
  | str x => intro _; exact .str x
  | lst n r all ih =>
    intro h
    simp only [nodes] at h
    exact .lst (h _ _ (List.mem_cons_self ..) (.lst n r all)) r (ih fun b l m i => h b l (List.mem_cons_of_mem _ m) i)
  | tup r all ih =>
    intro h
    simp only [nodes] at h
    exact .tup r (ih h)
  | dK n r all ih =>
    intro h
    simp only [nodes] at h
    exact .dK (h _ _ (List.mem_cons_self ..) (.dK n r all)) r (ih fun b l m i => h b l (List.mem_cons_of_mem _ m) i)
  | dT n r all ih =>
    intro h
    simp only [nodes] at h
    exact .dT (h _ _ (List.mem_cons_self ..) (.dT n r all)) r (ih fun b l m i => h b l (List.mem_cons_of_mem _ (by simp only [nodesK, nodes, List.nil_append]; exact m)) i)
  | nil => first | exact .nil | exact fun _ => .nil
  | cons a b iha ihb =>
    rename_i h
    simp only [nodesL, List.mem_append] at h
    exact .cons (iha fun b l m i => h b l (.inl m) i) (ihb fun b l m i => h b l (.inr m) i)
  | nilK => first | exact .nilK | exact fun _ => .nilK
  | consK a b iha ihb =>
    rename_i h
    simp only [nodesK, List.mem_append] at h
    exact .consK (iha fun b l m i => h b l (.inl m) i) (ihb fun b l m i => h b l (.inr m) i)
  | nilT => first | exact .nilT | exact fun _ => .nilT
  | consT a b iha ihb =>
    rename_i h
    simp only [nodesK, List.mem_append] at h
    exact .consT (iha fun b l m i => h b l (.inl m) i) (ihb fun b l m i => h b l (.inr m) i)
theorem IsAll.reO {O O' : Addr → Prop} {H : Hp} : ∀ {vs : List V} {ds : List PyData}, IsAll O H vs ds → (∀ b l, l ∈ nodesL ds → Is O H (.ref b) l → ¬ O' b) → IsAll O' H vs ds
  | _, _, .nil, _ => .nil
  | _, _, .cons a t, h => by
    simp only [nodesL, List.mem_append] at h
    exact .cons (a.reO fun b l m i => h b l (.inl m) i) (t.reO fun b l m i => h b l (.inr m) i)
mutual
theorem no_tup : ∀ (d : PyData) (xs : List PyData), PyData.tuple xs ∉ nodes d
  | .none, _ => by simp [nodes]
  | .bool _, _ => by simp [nodes]
  | .int _, _ => by simp [nodes]
  | .str _, _ => by simp [nodes]
  | .list ds, xs => by
    intro h
    simp only [nodes] at h
    rcases List.mem_cons.mp h with e | e
    · cases e
    · exact no_tupL ds xs e
  | .tuple ds, xs => by
    simp only [nodes]
    exact no_tupL ds xs
  | .dict kvs, xs => by
    intro h
    simp only [nodes] at h
    rcases List.mem_cons.mp h with e | e
    · cases e
    · exact no_tupK kvs xs e
theorem no_tupL : ∀ (ds xs : List PyData), PyData.tuple xs ∉ nodesL ds
  | [], _ => by simp [nodesL]
  | d :: ds, xs => by
    simp only [nodesL, List.mem_append, not_or]
    exact ⟨no_tup d xs, no_tupL ds xs⟩
theorem no_tupK : ∀ (ds : List (PyData × PyData)) (xs : List PyData), PyData.tuple xs ∉ nodesK ds
  | [], _ => by simp [nodesK]
  | (_, d) :: ds, xs => by
    simp only [nodesK, List.mem_append, not_or]
    exact ⟨no_tup d xs, no_tupK ds xs⟩
end
/-- no list and no dict of d is one of ds -/
def Apart (ds : List PyData) (d : PyData) : Prop := ∀ l, l ∈ nodesL ds → l ∉ nodes d
/-- all that is tracked, but what the data ds have -/
def allBut (H : Hp) (ds : List PyData) (b : Addr) : Prop := (∃ o, H b = some o ∧ isTup o = false) ∧ ¬ ∃ O l, l ∈ nodesL ds ∧ Is O H (.ref b) l
theorem new_of {H H' : Hp} {v : V} {d : PyData} {ds : List PyData} (s : Same H H') (is : Is (allBut H ds) H' v d) (ap : Apart ds d) : Is (fun b => H b ≠ none) H' v d := by
  refine is.reO fun b l m i q => ?_
  have t : ∃ o, H' b = some o ∧ isTup o = false := by
    cases i with
    | lst n r _ => exact ⟨_, r, rfl⟩
    | tup r _ =>
      exfalso
      exact no_tup _ _ m
    | dK n r _ => rcases r with r | ⟨o, r⟩ <;> exact ⟨_, r, rfl⟩
    | dT n r _ => rcases r with r | ⟨o, r⟩ <;> exact ⟨_, r, rfl⟩
  have nO : ¬ allBut H ds b := by
    cases i with
    | lst n r _ => exact n
    | tup r _ =>
      obtain ⟨o, h1, h2⟩ := t
      rw [r] at h1; cases h1; cases h2
    | dK n r _ => exact n
    | dT n r _ => exact n
  cases hb : H b with
  | none => exact q hb
  | some o =>
    obtain ⟨o', h1, h2⟩ := t
    have h3 := s b o hb
    rw [h1] at h3
    cases h3
    refine nO ⟨⟨_, hb, h2⟩, fun ⟨O, l', m', i'⟩ => ?_⟩
    have e := (i'.mono (.same s)).det i
    subst e
    exact ap _ m' m

section
variable {X : Cx} {a b c e : Expr} {es : List Expr} {ta tb tc : DT} {t : DTA} {pos : Pos} {x : Str} {p : Pos} {k n : Nat} {f : Addr} {fd : FuncData} {ps : List Str} {F : DF}
/-- new data, all its lists and dicts its own; a list without lists within is an own one -/
def putN (i : Nat) (d : PyData) (ρ : DEnv) (k : DEnv → Prop) : Prop :=
  match d with
  | .list ds => if flats ds = true then ∀ p, k (ρ.set i (some (.own p d))) else ∀ P, k (ρ.set i (some (.deep P d)))
  | _ => if flat d = true then k (ρ.set i (some (.val d))) else ∀ P, k (ρ.set i (some (.deep P d)))
theorem flats_any {O O' : Addr → Prop} {H : Hp} : ∀ {vs : List V} {ds : List PyData}, IsAll O H vs ds → flats ds = true → IsAll O' H vs ds
  | _, _, .nil, _ => .nil
  | _, _, .cons a t, h => by
    simp only [flats, Bool.and_eq_true] at h
    exact .cons (a.flat_any h.1) (flats_any t h.2)
theorem putN_rep {B : Bs} {ρ : DEnv} {σ : L2.St} {H H' : Hp} {i : Nat} {v : V} {d : PyData} {K : DEnv → Prop} (R : Rep B ρ σ H) (s : Same H H') (is : Is (fun b => H b ≠ none) H' v d) (h : putN i d ρ K) :
    ∃ ρ', K ρ' ∧ Rep B ρ' (σ.set i (some v)) H' ∧ Adv (OW B ρ) (OW B ρ') H H' := by
  have deep : (∀ P, K (ρ.set i (some (.deep P d)))) → ∃ ρ', K ρ' ∧ Rep B ρ' (σ.set i (some v)) H' ∧ Adv (OW B ρ) (OW B ρ') H H' := fun h => by
    obtain ⟨R1, m1⟩ := R.freshen (P := fun b => H b = none ∧ ∃ o, H' b = some o ∧ isTup o = false) s fun p q => q
    have is2 : Is (fun b => ¬ (H b = none ∧ ∃ o, H' b = some o ∧ isTup o = false)) H' v d := by
      refine is.reO fun b l m i q => ?_
      refine q ?_
      cases i with
      | lst n r _ => exact ⟨Classical.byContradiction n, _, r, rfl⟩
      | tup r _ => exact (no_tup _ _ m).elim
      | dK n r _ => exact ⟨Classical.byContradiction n, by rcases r with r | ⟨o, r⟩ <;> exact ⟨_, r, rfl⟩⟩
      | dT n r _ => exact ⟨Classical.byContradiction n, by rcases r with r | ⟨o, r⟩ <;> exact ⟨_, r, rfl⟩⟩
    obtain ⟨R2, m2⟩ := R1.adoptC (i := i) (v := v) (c := .deep (fun b => H b = none ∧ ∃ o, H' b = some o ∧ isTup o = false) d) (fun a z => z) is2 fun q z => R.entry z.1
    exact ⟨_, h _, R2, m1.trans m2⟩
  unfold putN at h
  split at h
  · rename_i ds
    by_cases fl : flats ds = true
    · rw [if_pos fl] at h
      cases is with
      | @lst q xs _ n r all =>
        have hn : H q = none := Classical.byContradiction n
        obtain ⟨R1, m1⟩ := R.freshen (P := (· = q)) s fun b e => by
          cases (show b = q from e)
          exact ⟨hn, _, r, rfl⟩
        obtain ⟨f1, f2⟩ := R.entry hn
        obtain ⟨R2, m2⟩ := R1.adopt (i := i) (d := .list ds) ⟨_, r, .lst (flats_any all fl)⟩ f1 f2
        exact ⟨_, h q, R2, m1.trans m2⟩
    · rw [if_neg fl] at h
      exact deep h
  · by_cases fl : flat d = true
    · rw [if_pos fl] at h
      obtain ⟨R2, m2⟩ := (R.same s).setVal (i := i) (is.flat_any (O' := OW B ρ) fl)
      exact ⟨_, h, R2, (Adv.same s).trans m2⟩
    · rw [if_neg fl] at h
      exact deep h
/-- x = f(..), what is told is new -/
def sSetN (i n : Nat) (F : DF) (t : DTA) : DTS := fun E ρ => t ρ fun os ρ1 => os.length = n ∧ rdAll os ρ1 fun ds => F ds fun d _ => Apart ds d ∧ putN i d ρ1 E.nx
theorem OAll.all {B : Bs} {ρ : DEnv} {σ : L2.St} {H : Hp} (R : Rep B ρ σ H) {vs : List V} {os : List OV} {k : List PyData → Prop} (i : OAll B ρ σ H vs os) (h : rdAll os ρ k) : ∃ ds, k ds ∧ IsAll (allBut H ds) H vs ds := by
  obtain ⟨ds, h1, is⟩ := OAll.args (P := ownArgs ρ os) R (fun o ho b z => ⟨o, ho, z⟩) i h
  exact ⟨ds, h1, is.reO fun b l m i z => z.2 ⟨_, l, m, i⟩⟩
theorem ds_setN {i : Nat} {y : Str} {pos' spos : Pos} (G : FnOk X.prog X.w X.K X.mg X.base CX0 k f fd ps (spD false n F)) (hr : Room k X.A) (hg : Gl X x) (hm : X.mg x = some (.ref f)) (hk : PySem.W.keepIn X.K (.ref f) = true) (hb : Binds X.K fd ps [])
    (ha : DA X (e :: es) t) (hN : X.N.Nodup) (hi : X.N[i]? = some y) (hy : Loc X.env.scope y) (hdb : (x == ("__debug__" : Str)) = false := by decide) (he : starEach (e :: es) X.env = (false, eval e X.env) :: starEach es X.env := by rfl) (hpl : (backTo pos (starEach es X.env)).any (·.1) = false := by rfl)
    (hs : swapsWith (.Call (.Name x p) (e :: es) [] pos) (some (.Name y pos')) spos.line X.env = pure false := by rfl) (hf : X.fn y = true ∨ X.env.scope.names.lookup y = some .local := by first | exact .inl rfl | exact .inr rfl | assumption) :
    DS X (.Assign [.Name y pos'] (.Call (.Name x p) (e :: es) [] pos) spos) (sSetN i n F t) := PS.imp (ps_set hN hi hy (pe_call G hr hg hm hk hb .nil pass0 ha hdb he hpl) hs hf) fun D σ H ⟨B, ρ, E, R, t, k⟩ => by
  refine ⟨B, ρ, _, R, t, fun os ρ1 vs H1 t1 m1 R1 i1 => ?_⟩
  obtain ⟨hl, t1⟩ := t1
  rw [List.append_nil]
  obtain ⟨ds, h1, is⟩ := OAll.all R1 i1 t1
  refine ⟨by rw [Paired.length i1, hl], allBut H1 ds, ds, _, fun a z => z.1, h1, ?_⟩
  rw [if_neg Bool.false_ne_true]
  refine ⟨is, fun d e v H' hq hs hv => ?_⟩
  obtain ⟨ρ2, h2, R2, m2⟩ := putN_rep R1 hs (new_of hs hv hq.1) hq.2
  exact k.nx _ _ _ h2 (m1.trans m2) R2
/-- a name's containers are no name's -/
theorem Rep.give {B : Bs} {ρ : DEnv} {σ : L2.St} {H : Hp} (R : Rep B ρ σ H) {i : Nat} {c : Cell} (h : ρ[i]? = some (some c)) : Rep (B.more (cellA c)) (ρ.set i none) σ H ∧ Adv (OW B ρ) (OW (B.more (cellA c)) (ρ.set i none)) H H := by
  have sub : ∀ a, OW (B.more (cellA c)) (ρ.set i none) a → OW B ρ a := fun a z => by
    rcases z with (z | z) | z
    · exact .inl z
    · exact .inr ⟨i, c, h, z⟩
    · rcases owns_set z with ⟨_, e, _⟩ | z
      · cases e
      · exact .inr z
  have m := Adv.sub (H := H) sub
  have other : ∀ {j : Nat} {c' : Cell}, (ρ.set i none)[j]? = some (some c') → j ≠ i ∧ ρ[j]? = some (some c') := fun {j c'} e => by
    rcases get_set_cases e with ⟨_, e1, _⟩ | q
    · cases e1
    · exact q
  refine ⟨⟨by rw [List.length_set]; exact R.len, fun a z => ?_, fun j c' e => ?_, fun j c' a e z => ?_, fun j l c1 c2 a e1 e2 z1 z2 => ?_, R.keep⟩, m⟩
  · rcases z with z | z
    · exact R.trk a z
    · exact (R.adr i c a h z).1
  · obtain ⟨v, h1, h2⟩ := R.cel j c' (other e).2
    exact ⟨v, h1, h2.mono m (fun _ _ _ e => e) fun _ _ e _ => e⟩
  · obtain ⟨h1, h2, h3⟩ := R.adr j c' a (other e).2 z
    refine ⟨h1, fun y => y.elim h2 fun y => (other e).1 (R.inj j i c' c a (other e).2 h z y), h3⟩
  · exact R.inj j l c1 c2 a (other e1).2 (other e2).2 z1 z2
/-- x[j].append(e), x told by a call and not looked at again -/
def sDeepApp (i : Nat) (j : Nat) (ta : DT) : DTS := fun E ρ => match ρ[i]? with
  | some (some (.deep P (.tuple ds))) => ∃ l, ds[j]? = some (.list l) ∧ l.length < 16777216 ∧ ta ρ fun o ρ1 => o.tk ρ1 fun d ρ2 => ρ2[i]? = some (some (.deep P (.tuple ds))) ∧ E.nx (ρ2.set i none)
  | _ => False
theorem ds_deepApp {i j : Nat} {kk : Nat} {p1 p2 apos cpos : Pos} (hx : PE X (.Name x p) (tVar i)) (ha : DO X e ta)
    (hbase : attributeBase (.Subscript (.Name x p) (.Constant (.int (j : Nat)) kk p1) p2) "append" X.env (eval (.Subscript (.Name x p) (.Constant (.int (j : Nat)) kk p1) p2) X.env) = eval (.Subscript (.Name x p) (.Constant (.int (j : Nat)) kk p1) p2) X.env := by rfl)
    (hfew : ((backTo cpos (starEach [e] X.env)).all (fun x => !x.1) && (backToKw cpos (keywordEach [] X.env)).all (fun x => x.1.isSome) && decide (([e] : List Expr).length + ([] : List Keyword).length + (if ([] : List Keyword).isEmpty then 0 else 1) < 30)) = true := by rfl)
    (hline : (apos.endLine == cpos.line) = true := by rfl) (hs : starEach [e] X.env = (false, eval e X.env) :: starEach [] X.env := by rfl) (hplain : (backTo cpos (starEach [] X.env)).any (·.1) = false := by rfl)
    (hsw : swapsWith (.Call (.Attribute (.Subscript (.Name x p) (.Constant (.int (j : Nat)) kk p1) p2) "append" apos) [e] [] cpos) none pos.line X.env = pure false := by rfl) (hp : PlainIx (.Constant (.int (j : Nat)) kk p1) := by exact fun _ _ => rfl) :
    DS X (.Expr (.Call (.Attribute (.Subscript (.Name x p) (.Constant (.int (j : Nat)) kk p1) p2) "append" apos) [e] [] cpos) pos) (sDeepApp i j ta) :=
  PS.imp (ps_expr (pe_bm PySem.F.plainAttrs_list PySem.F.slot_list_append PySem.F.type_list_append mt_append (pe_ix ix_seq hx pe_int hp) (pa_cons ha pa_nil hs) hbase hfew hline hs hplain) hsw) fun D σ H ⟨B, ρ, E, R, t, k⟩ => by
  unfold sDeepApp at t
  split at t
  · rename_i P ds h0
    obtain ⟨l, hl, hz, t⟩ := t
    have at_ : ∀ {ρ' : DEnv} {H' : Hp}, ρ'[i]? = some (some (.deep P (.tuple ds))) → Rep B ρ' σ H' → ∃ a xs q ys, σ[i]? = some (some (.ref a)) ∧ H' a = some (.tup xs) ∧ xs[j]? = some (.ref q) ∧ P q ∧ H' q = some (.lst ys) ∧ ys.length = l.length := by
      intro ρ' H' e R'
      obtain ⟨v, h1, h2⟩ := R'.cel i _ e
      obtain ⟨a, xs, rfl, f1, f2⟩ := Is.tup' (show Is (fun b => ¬ P b) H' v (.tuple ds) from h2)
      obtain ⟨w, g1, g2⟩ := f2.get hl
      cases g2 with
      | @lst q ys _ n r all => exact ⟨a, xs, q, ys, h1, f1, g1, Classical.byContradiction n, r, all.length⟩
    obtain ⟨a, xs, q, ys, s1, f1, f2, f3, f4, f5⟩ := at_ h0 R
    refine ⟨_, s1, .inr (.inl ⟨a, xs, (j : Nat), .ref q, rfl, rfl, SqT.of f1, atI_nat f2, ?_⟩)⟩
    · refine ⟨.inl ⟨rfl, ys, SqL.of f4⟩, B, ρ, _, R, t, fun o ρ1 v H1 t1 m1 R1 i1 => ?_⟩
      obtain ⟨d, ρ2, ⟨h2, h3⟩, is, R2, m2⟩ := i1.tk R1 t1
      obtain ⟨a', xs', q', ys', s1', f1', f2', f3', f4', f5'⟩ := at_ h2 R2
      rw [s1] at s1'
      cases s1'
      have e1 : H1 a = some (.tup xs) := m1.1 _ _ f1 (.inr rfl)
      rw [f1'] at e1
      cases e1
      rw [f2] at f2'
      cases f2'
      refine ⟨q, ys', v, rfl, rfl, f4', by rw [sizeLine_eq, f5']; exact hz, ?_⟩
      obtain ⟨R3, m3⟩ := R2.give h2
      obtain ⟨_, _, g3⟩ := R2.adr i _ q h2 f3'
      obtain ⟨R4, m4⟩ := R3.writeO (p := q) (u := .lst (ys' ++ [v])) (.inr f3') g3 rfl
      obtain ⟨R5, m5⟩ := R4.drop
      exact k.nx _ _ _ h3 ((((m1.trans m2).trans m3).trans m4).trans m5) R5
  · exact t.elim
/-- f(..), what is told is new -/
def dCallN (n : Nat) (F : DF) (t : DTA) : DT := fun ρ q => t ρ fun os ρ1 => os.length = n ∧ rdAll os ρ1 fun ds => F ds fun d _ => Apart ds d ∧ q (.vl d) ρ1
theorem new_is {B : Bs} {ρ : DEnv} {σ : L2.St} {H H' : Hp} {v : V} {d : PyData} (R : Rep B ρ σ H) (is : Is (fun b => H b ≠ none) H' v d) : Is (OW B ρ) H' v d := is.reO fun b l m i q => by
  obtain ⟨o, e, _⟩ := R.ow q
  cases i with
  | lst n r _ => exact n (by rw [e]; simp)
  | tup r _ => exact (no_tup _ _ m).elim
  | dK n r _ => exact n (by rw [e]; simp)
  | dT n r _ => exact n (by rw [e]; simp)
theorem upCallN {E : XK} {σ : L2.St} {H : Hp} {Q : VK} (h : upO (dCallN n F t) σ H Q) : tCall (spD false n F) [] E (upA t) σ H Q := by
  obtain ⟨B, ρ, q, R, t, k⟩ := h
  refine ⟨B, ρ, _, R, t, fun os ρ1 vs H1 t1 m1 R1 i1 => ?_⟩
  obtain ⟨hl, t1⟩ := t1
  rw [List.append_nil]
  obtain ⟨ds, h1, is⟩ := OAll.all R1 i1 t1
  refine ⟨by rw [Paired.length i1, hl], allBut H1 ds, ds, _, fun a z => z.1, h1, ?_⟩
  rw [if_neg Bool.false_ne_true]
  exact ⟨is, fun d e v H' hq hs hv => k _ _ _ _ hq.2 (m1.trans (.same hs)) (R1.same hs) (new_is R1 (new_of hs hv hq.1))⟩
theorem do_callN (G : FnOk X.prog X.w X.K X.mg X.base CX0 k f fd ps (spD false n F)) (hr : Room k X.A) (hg : Gl X x) (hm : X.mg x = some (.ref f)) (hk : PySem.W.keepIn X.K (.ref f) = true) (hb : Binds X.K fd ps [])
    (ha : DA X (e :: es) t) (hdb : (x == ("__debug__" : Str)) = false := by decide) (he : starEach (e :: es) X.env = (false, eval e X.env) :: starEach es X.env := by rfl) (hpl : (backTo pos (starEach es X.env)).any (·.1) = false := by rfl) :
    DO X (.Call (.Name x p) (e :: es) [] pos) (dCallN n F t) := PE.imp (pe_call G hr hg hm hk hb .nil pass0 ha hdb he hpl) fun _ _ _ h => upCallN h
/-- f(b = .., a = ..), what is told is new -/
def dKw2N (F : DF) (t : DTA) : DT := fun ρ q => t ρ fun os ρ1 => os.length = 2 ∧ rdAll os ρ1 fun ds => F ds.reverse fun d _ => Apart ds d ∧ q (.vl d) ρ1
theorem do_kw2N {kws : List Keyword} {x1 x2 : Str} (G : FnOk X.prog X.w X.K X.mg X.base CX0 k f fd ps (spD false 2 F)) (hr : Room k X.A) (hg : Gl X x) (hm : X.mg x = some (.ref f)) (hk : PySem.W.keepIn X.K (.ref f) = true)
    (hb : KBn X.K fd ps 0 [x1, x2] (fun _ ws => ws.reverse) (fun _ zs => zs.reverse)) (hkw : DK X kws t) (hall : (backToKw pos (keywordEach kws X.env)).all (·.1.isSome) = true := by rfl) (hks : (backToKw pos (keywordEach kws X.env)).filterMap (·.1) = [x1, x2] := by rfl)
    (hdb : (x == ("__debug__" : Str)) = false := by decide) (hpl : ((backTo pos (starEach [] X.env)).any (·.1) || (backToKw pos (keywordEach kws X.env)).any (·.1.isNone)) = false := by rfl) :
    DO X (.Call (.Name x p) [] kws pos) (dKw2N F t) := PE.imp (pe_kws G hr hg hm hk hb hkw hall hks hdb hpl) fun σ H Q ⟨B, ρ, q, R, t, k⟩ => by
  refine ⟨B, ρ, _, R, t, fun os ρ1 vs H1 t1 m1 R1 i1 => ?_⟩
  obtain ⟨hl, t1⟩ := t1
  obtain ⟨ds, h1, is⟩ := OAll.all R1 i1 t1
  refine ⟨(Paired.length i1).trans hl, by rw [List.length_reverse, Paired.length i1, hl], allBut H1 ds, ds.reverse, _, fun a z => z.1, h1, ?_⟩
  rw [if_neg Bool.false_ne_true]
  exact ⟨is.reverse, fun d e v H' hq hs hv => k _ _ _ _ hq.2 (m1.trans (.same hs)) (R1.same hs) (new_is R1 (new_of hs hv hq.1))⟩
end
end DL
namespace DL
open PySem PySem.Spec PyProof.Rows L2

/-! ### for x in a list, a tuple or a text -/
def ItS (K : PySem.W.Frag) : ZS → It
  | .l a => Itl K a
  | .t a => Itt K a
  | .s x => Its x
section
variable {X : Cx} {tg e : Expr} {te : TE} {ta : DT} {pos : Pos}
def iAnyV (K : PySem.W.Frag) (te : TE) : TI := fun σ H R => te σ H fun v H1 => ∃ (z : ZS) (xs : List V), v = z.v ∧ z.sq K H1 xs ∧ R (ItS K z) H1
theorem pi_any (he : PE X e te) : PI X tg e (iAnyV X.K te) := by
  refine ⟨fun pins s σ H R I h => thn (he.run pins s σ H _ I h) fun v s1 ⟨y, H1, J, rel, z, xs, ev, hq, q⟩ => ?_⟩
  subst ev
  have fresh : ∀ b ∈ [s1.heap.objs.size], FpOk X pins H1 b := fun b hb => by
    rw [List.mem_singleton.mp hb]
    exact J.fpOk (Nat.le_refl _) (J.hok.fresh (Nat.le_refl _))
  have grown : ∀ o : Obj, Inv X pins σ H1 { s1 with heap := s1.heap.push o } := fun o => J.kept (t' := s1.toks) fun b u q => Heap.get?_push_of_some _ q
  cases z with
  | l a =>
    cases rel
    obtain ⟨its, rv, p, _⟩ := J.list hq
    exact wpAny_pyIter_list p.isList ⟨_, _, _, _, H1, rfl, grown _, turn_list a _, ⟨_, Heap.get?_push_size _ rfl, rfl, rfl⟩, fresh, q⟩
  | t a =>
    cases rel
    obtain ⟨its, rv, p, _⟩ := J.tuple hq
    exact wpAny_pyIter_tuple (show s1.heap.IsTuple a its.toArray from p) ⟨_, _, _, _, H1, rfl, grown _, turn_tuple a _, ⟨_, Heap.get?_push_size _ rfl, rfl, rfl⟩, fresh, q⟩
  | s x =>
    obtain ⟨t, rfl⟩ := rel
    by_cases ha : x.cps.all (· < 128) = true
    · exact wpAny_pyIter_ascii ha ⟨_, _, _, _, H1, rfl, grown _, turn_str _ x t "str_ascii_iterator" (.inl rfl), ⟨_, Heap.get?_push_size _ rfl, rfl, rfl⟩, fresh, q⟩
    · exact wpAny_pyIter_wide (by simpa using ha) ⟨_, _, _, _, H1, rfl, grown _, turn_str _ x t "str_iterator" (.inr rfl), ⟨_, Heap.get?_push_size _ rfl, rfl, rfl⟩, fresh, q⟩
theorem src_any {K : PySem.W.Frag} {O : Addr → Prop} {H0 : Hp} {v : V} {d : PyData} {ds : List PyData} (is : Is O H0 v d) (e : seqD d = some ds) : ∃ (z : ZS) (xs : List V), v = z.v ∧ z.sq K H0 xs ∧ Src (ItS K z) O H0 ds := by
  cases is with
  | non => cases e
  | bl b => cases e
  | int i => cases e
  | @lst a xs ds' n r all => cases e; exact ⟨.l a, xs, rfl, SqL.of r, src_list n r all⟩
  | @tup a xs ds' r all => cases e; exact ⟨.t a, xs, rfl, SqT.of r, src_tup r all⟩
  | str x =>
    cases e
    refine ⟨.s x, _, rfl, rfl, fun i O' H m => ⟨fun d hd => ?_, fun hl => ?_⟩⟩
    · rw [List.getElem?_map] at hd
      cases q : (L x)[i]? with
      | none => rw [q] at hd; cases hd
      | some c =>
        rw [q] at hd
        cases hd
        have q' : x.cps[i]? = some c := by rw [← Array.getElem?_toList]; exact q
        refine ⟨(Array.getElem?_eq_some_iff.mp q').1, fun y H' ⟨e, c', hc, ey⟩ => ?_⟩
        rw [q'] at hc
        cases hc
        subst e ey
        exact ⟨Same.refl _, .str _⟩
    · rw [List.length_map, L_len] at hl
      exact Nat.le_of_eq hl.symm
  | dK n r t => cases e
  | dT n r t => cases e
def iAny (ta : DT) : DTI := fun ρ q => ta ρ fun o ρ1 => o.tk ρ1 fun d ρ2 => ∃ ds, seqD d = some ds ∧ q ds ρ2
theorem di_any (ha : DO X e ta) : DI X tg e (iAny ta) := PI.imp (pi_any ha) fun σ H R' ⟨B, ρ, q, R, t, k⟩ => by
  refine ⟨B, ρ, _, R, t, fun o ρ1 v H1 t1 m1 R1 i1 => ?_⟩
  obtain ⟨d, ρ2, ⟨ds, hd, h2⟩, is, R2, m2⟩ := i1.tk R1 t1
  obtain ⟨z, xs, ev, hq, src⟩ := src_any (K := X.K) is hd
  exact ⟨z, xs, ev, hq, k _ _ _ _ h2 (m1.trans m2) R2 src⟩
end

/-! ### a = list(x) -/
section
variable {X : Cx} {e : Expr} {ta : DT} {pos p : Pos}
def fListOf (ta : DT) : DTF := fun ρ q => ta ρ fun o ρ1 => o.rd ρ1 fun d => match d with
  | .list ds => q (.list ds) ρ1
  | .tuple ds => q (.list ds) ρ1
  | _ => False
theorem dfr_listOf (hg : Gl X "list") (hm : X.mg "list" = none) (ha : DO X e ta) (he : starEach [e] X.env = (false, eval e X.env) :: starEach [] X.env := by rfl) : DFr X (.Call (.Name "list" p) [e] [] pos) (fListOf ta) :=
  PE.imp (pe_callTy call_list_of hg hm (by decide +kernel) (pa_cons ha pa_nil he) (by decide) (by decide) he) fun σ H Q ⟨B, ρ, q, R, t, k⟩ => by
  refine ⟨B, ρ, _, R, t, fun o ρ1 v H1 t1 m1 R1 i1 => ?_⟩
  obtain ⟨d, h2, rd⟩ := i1.rd R1 t1
  have fin : ∀ {ys : List V} {ds : List PyData} (l : Addr), q (.list ds) ρ1 → IsAll (OW B ρ1) H1 ys ds → H1 l = none → Q (.ref l) (upd H1 l (.lst ys)) := fun {ys ds} l hq all hl => by
    obtain ⟨R3, tp, m3⟩ := R1.fresh hl (.lst all)
    obtain ⟨e1, e2⟩ := R1.entry hl
    exact k _ _ _ _ hq e1 e2 (m1.trans m3) R3 tp
  split at h2
  · obtain ⟨a, ys, rfl, e2, e3⟩ := rd.lst
    exact ⟨a, ys, rfl, .inl (SqL.of e2), fun l hl => fin l h2 e3 hl⟩
  · obtain ⟨a, ys, rfl, e2, e3⟩ := rd.tup
    exact ⟨a, ys, rfl, .inr (SqT.of e2), fun l hl => fin l h2 e3 hl⟩
  · exact h2.elim
/-- a module's text or number -/
theorem do_glo {x : Str} {v : V} {d : PyData} {u : Value} (hg : Gl X x) (hm : X.mg x = some u) (r : RelV v u) (s : Sc v d) (hd : (x == ("__debug__" : Str)) = false := by decide) : DO X (.Name x pos) (dC d) := do_c (pe_glob hg hm r hd) s
end

/-! ### what is known of a def -/
structure Know (P : Program) (w : World) (K : PySem.W.Frag) (mg : Str → Option Value) (base : Heap) (x : Str) (k : Nat) (ps : List Str) (m : Bool) (n : Nat) (F : DF) : Prop where
  ex : ∃ (f : Addr) (fd : FuncData), mg x = some (.ref f) ∧ PySem.W.keepIn K (.ref f) = true ∧ L2.Binds K fd ps [] ∧ FnOk P w K mg base CX0 k f fd ps (spD m n F)
/-- .. and of its call by two keywords, turned round -/
structure KnowK (P : Program) (w : World) (K : PySem.W.Frag) (mg : Str → Option Value) (base : Heap) (x : Str) (k : Nat) (p1 p2 : Str) (F : DF) : Prop where
  ex : ∃ (f : Addr) (fd : FuncData), mg x = some (.ref f) ∧ PySem.W.keepIn K (.ref f) = true ∧ L2.Binds K fd [p1, p2] [] ∧ FnOk P w K mg base CX0 k f fd [p1, p2] (spD false 2 F) ∧ KBn K fd [p1, p2] 0 [p2, p1] (fun _ ws => ws.reverse) (fun _ zs => zs.reverse)
structure KnowG (P : Program) (w : World) (K : PySem.W.Frag) (mg : Str → Option Value) (base : Heap) (x : Str) (k : Nat) (ps : List Str) (m : Bool) (n : Nat) (F : DF) : Prop where
  ex : ∃ (f : Addr) (fd : FuncData), mg x = some (.ref f) ∧ PySem.W.keepIn K (.ref f) = true ∧ L2.Binds K fd ps [] ∧ FnG P w K mg base k f fd ps (spD m n F)
end DL
namespace DL
open PySem PySem.Spec PyProof.Rows L2

/-! ### loops, told by an invariant -/
theorem forGo_inv {g : DTG} {u : DTS} {E : DEnds} (I : List PyData → DEnv → Prop) (done : ∀ ρ, I [] ρ → E.nx ρ)
    (step : ∀ d r ρ (N : DEnv → Prop), (∀ ρ', I r ρ' → N ρ') → I (d :: r) ρ → g d ρ fun ρ1 => u { E with nx := N, ct := N, bk := E.nx } ρ1) : ∀ ds ρ, I ds ρ → forGo g u E ds ρ
  | [], ρ, h => done ρ h
  | d :: r, ρ, h => step d r ρ _ (fun ρ' h' => forGo_inv I done step r ρ' h') h
/-- a comprehension that leaves the names as they are -/
theorem lcGo_map {g : DTG} {tt : DTT} {te : DT} {vs : List Nat} {ρ : DEnv} (f : PyData → PyData) (hp : plainC ρ vs = true) : ∀ (ds acc : List PyData) (q : PyData → DEnv → Prop),
    (∀ d ∈ ds, ∀ (Q1 : PyData → DEnv → Prop) (Q2 : DEnv → Prop), (∀ ρ4, backD ρ ρ4 vs = ρ → Q1 (f d) ρ4) → g d (wipeD ρ vs) fun ρ1 => tt ρ1 fun b ρ2 => if b = true then te ρ2 fun o ρ3 => o.tk ρ3 Q1 else Q2 ρ2) →
    acc.length + ds.length ≤ 16777216 → q (.list (acc ++ ds.map f)) ρ → lcGo g tt te vs ds acc ρ q
  | [], acc, q, _, _, h => by
    rw [List.map_nil, List.append_nil] at h
    exact h
  | d :: r, acc, q, step, hl, h => by
    refine step d (List.mem_cons_self ..) _ _ fun ρ4 e => ?_
    rw [List.length_cons] at hl
    refine ⟨by omega, ?_, ?_⟩
    · rw [e]; exact hp
    · rw [e]
      refine lcGo_map f hp r (acc ++ [f d]) q (fun d' hd => step d' (List.mem_cons_of_mem _ hd)) ?_ ?_
      · rw [List.length_append, List.length_singleton]; omega
      · rw [List.append_assoc]
        exact h

/-! ### roads as truths: L is false, R is true -/
def sg (b : Bool) : Nat := if b then 82 else 76
def enc (w : List Bool) : List Nat := w.map sg
abbrev Wd (w : List Bool) : PyData := S (enc w)
theorem enc_len (w : List Bool) : (enc w).length = w.length := List.length_map ..
theorem enc_app (a b : List Bool) : enc (a ++ b) = enc a ++ enc b := List.map_append ..
theorem sg_inj {a b : Bool} (h : sg a = sg b) : a = b := by
  cases a <;> cases b <;> first | rfl | (exact absurd h (by decide))
theorem enc_inj : ∀ {a b : List Bool}, enc a = enc b → a = b
  | [], [], _ => rfl
  | [], _ :: _, h => by cases h
  | _ :: _, [], h => by cases h
  | x :: a, y :: b, h => by
    simp only [enc, List.map_cons, List.cons.injEq] at h
    rw [sg_inj h.1, enc_inj (show enc a = enc b from h.2)]
theorem Wd_inj {a b : List Bool} (h : Wd a = Wd b) : a = b := by
  have : mk (enc a) = mk (enc b) := by injection h
  exact enc_inj (mk_inj this)

/-! ### truths -/
theorem ifb {k : PyData → Prop} {b : Bool} (c : Bool) (h : b = c) (hk : k (.bool c)) : k (.bool b) := by
  subst h
  exact hk
theorem eqv_int (a b : Int) : PyData.eqv (.int a) (.int b) = decide (a = b) := by
  show (a == b) = _
  rw [Bool.eq_iff_iff]; simp
theorem eqv_str (a b : Str) : PyData.eqv (.str a) (.str b) = decide (a = b) := by
  show (a == b) = _
  rw [Bool.eq_iff_iff]; simp
theorem eqv_Wd (a b : List Bool) : PyData.eqv (Wd a) (Wd b) = decide (a = b) := by
  rw [show PyData.eqv (Wd a) (Wd b) = decide (mk (enc a) = mk (enc b)) from eqv_str _ _]
  refine decide_eq_decide.mpr ⟨fun h => enc_inj (mk_inj h), fun h => by rw [h]⟩
theorem strOk_mk {l : List Nat} (h : ∀ c ∈ l, c < 1114112) : PyData.strOk (mk l) = true := by
  unfold PyData.strOk mk
  rw [List.all_toArray, List.all_eq_true]
  intro c hc
  exact decide_eq_true (h c hc)
theorem shaped_S {l : List Nat} (h : ∀ c ∈ l, c < 1114112) : SeqAt.shaped (S l) = true := by
  unfold SeqAt.shaped
  simp only [PyData.canLay0, PyData.depth, strOk_mk h]
  rfl
theorem sg_lt (b : Bool) : sg b < 1114112 := by cases b <;> decide
theorem enc_lt (w : List Bool) : ∀ c ∈ enc w, c < 1114112 := fun c hc => by
  obtain ⟨b, _, rfl⟩ := List.mem_map.mp hc
  exact sg_lt b
theorem shaped_Wd (w : List Bool) : SeqAt.shaped (Wd w) = true := shaped_S (enc_lt w)
theorem shaped_sg (b : Bool) : SeqAt.shaped (S [sg b]) = true := shaped_Wd [b]
theorem shaped_int (i : Int) : SeqAt.shaped (.int i) = true := by
  unfold SeqAt.shaped
  simp [PyData.canLay0, PyData.depth]
def joinN (s : List Nat) : List (List Nat) → List Nat
  | [] => []
  | [p] => p
  | p :: q :: r => p ++ s ++ joinN s (q :: r)
theorem mk_app (a b : List Nat) : mk a ++ mk b = mk (a ++ b) := (L_app (mk a) (mk b)).symm
theorem join_mk (s : List Nat) (ps : List (List Nat)) : Txt.join (mk s) (ps.map mk) = mk (joinN s ps) := by
  have e : Txt.join (mk s) (ps.map mk) = Str.join (mk s) (ps.map mk) := StrLaws.glued_eq_join _ _
  rw [e]
  clear e
  induction ps with
  | nil => rfl
  | cons p r ih =>
    cases r with
    | nil => rfl
    | cons q r =>
      show mk p ++ mk s ++ Str.join (mk s) ((q :: r).map mk) = _
      rw [ih, mk_app, mk_app]
      rfl
theorem joinN_nil : ∀ (ps : List (List Nat)), joinN [] ps = ps.flatten
  | [] => rfl
  | [p] => by simp [joinN]
  | p :: q :: r => by
    show p ++ [] ++ joinN [] (q :: r) = _
    rw [joinN_nil (q :: r), List.append_nil]
    rfl
theorem enc_flat : ∀ (ws : List (List Bool)), (ws.map enc).flatten = enc ws.flatten
  | [] => rfl
  | w :: ws => by
    rw [List.map_cons, List.flatten_cons, enc_flat ws, List.flatten_cons, enc_app]
theorem join_none (ws : List (List Bool)) : Txt.join (mk []) (ws.map fun w => mk (enc w)) = mk (enc ws.flatten) := by
  have e : (ws.map fun w => mk (enc w)) = (ws.map enc).map mk := by rw [List.map_map]; rfl
  rw [e, join_mk, joinN_nil, enc_flat]

/-! ### slices -/
theorem cut_from {α : Type} {xs : List α} {k : Nat} : cutD xs (some (k : Int)) none = xs.drop k := by
  unfold cutD
  rw [HT.sIx_nat, HT.sIx_none]
  by_cases h : k ≤ xs.length
  · rw [Nat.min_eq_left h]
    exact List.take_of_length_le (by rw [List.length_drop]; omega)
  · rw [Nat.min_eq_right (by omega), List.drop_eq_nil_of_le (Nat.le_refl _), List.drop_eq_nil_of_le (show xs.length ≤ k by omega)]
    simp
theorem cut_to {α : Type} {xs : List α} {k : Nat} : cutD xs none (some (k : Int)) = xs.take k := by
  unfold cutD
  rw [HT.sIx_nat, HT.sIx_none, List.drop_zero, Nat.sub_zero]
  by_cases h : k ≤ xs.length
  · rw [Nat.min_eq_left h]
  · rw [Nat.min_eq_right (by omega), List.take_of_length_le (Nat.le_refl _), List.take_of_length_le (show xs.length ≤ k by omega)]
theorem cut_mid {α : Type} {xs : List α} {k j : Nat} (h : j ≤ xs.length) (hk : k ≤ xs.length) : cutD xs (some (k : Int)) (some (j : Int)) = (xs.drop k).take (j - k) := by
  unfold cutD
  rw [HT.sIx_nat, HT.sIx_nat, Nat.min_eq_left h, Nat.min_eq_left hk]
theorem cut_enc (w : List Bool) (lo hi : Option Int) : cutD (enc w) lo hi = enc (cutD w lo hi) := by
  unfold cutD enc
  rw [List.length_map, List.map_take, List.map_drop]
theorem at_enc {w : List Bool} {k : Nat} {b : Bool} (h : w[k]? = some b) : atI (enc w) (k : Int) = some (sg b) := atI_nat (by unfold enc; rw [List.getElem?_map, h]; rfl)

/-! ### while and if, the test told apart -/
theorem while_of {s : DTT} {u : DTS} {E : DEnds} {ρ : DEnv} (W : Nat → DEnv → Prop) (h0 : ∃ m, W m ρ)
    (turn : ∀ m ρ, W m ρ → ∃ b : Bool, (∀ K : Bool → DEnv → Prop, K b ρ → s ρ K) ∧ (b = true → ∀ N : DEnv → Prop, (∀ ρ' m', m' < m → W m' ρ' → N ρ') → u { E with nx := N, ct := N, bk := E.nx } ρ) ∧ (b = false → E.nx ρ)) : sWhile s u E ρ := by
  refine ⟨W, h0, fun m ρ w => ?_⟩
  obtain ⟨b, ht, h1, h2⟩ := turn m ρ w
  refine ht _ ?_
  cases b with
  | true => exact h1 rfl _ fun ρ' m' lt w' => ⟨m', lt, w'⟩
  | false => exact h2 rfl
theorem if_of {s : DTT} {u v : DTS} {E : DEnds} {ρ : DEnv} (b : Bool) (ht : ∀ K : Bool → DEnv → Prop, K b ρ → s ρ K) (h1 : b = true → u E ρ) (h2 : b = false → v E ρ) : sIf s u v E ρ := by
  refine ht _ ?_
  cases b with
  | true => exact h1 rfl
  | false => exact h2 rfl
/-- one statement behind another, the names between them told -/
theorem seq_mid {u v : DTS} {E : DEnds} {ρ : DEnv} (ρ' : DEnv) (h1 : ∀ N : DEnv → Prop, N ρ' → u { E with nx := N } ρ) (h2 : v E ρ') : sSeq u v E ρ := h1 _ h2
end DL
namespace DL
open PySem PySem.Spec PyProof.Rows L2
def topS (i : Nat) : Stmt := PySem.Challenge.pw_leftroads_k83_machines_of_one_state.main.body.getD i (.Pass ⟨0, 0, 0, 0⟩)
theorem hu_of {k : Nat} {A : Around} (r : Room k A) : A.units + 1 < cLine := by have := r.units; omega
/-! has_turns_alone -/
abbrev s_has_turns_alone : Stmt := topS 7
theorem sc_has_turns_alone : FnScope ["word", "sign"] ["word"] (defScope s_has_turns_alone) := ⟨rfl, rfl, rfl, by decide +kernel, rfl, by decide +kernel, by decide +kernel⟩
def t_has_turns_alone : DTS := (sRet (dB1 (g1 (gAll (·.all id))) (dCons (dOfF (fLc (iAny (dN 0)) (tgN 1) dYes (d2 (gInS id) (dN 1) (dC (S [76, 82]))) [1])) dNil)))
abbrev PL_has_turns_alone (F  : DF) : Prop := ∀ (ds : List PyData) (q : PyData → PyData → Prop) (a : Addr), ds.length = 1 → F ds q → (t_has_turns_alone) (endsD false a q) (startD false a 2 ds)
theorem ok_has_turns_alone {P : Program} {w : World} {K : PySem.W.Frag} {mg : Str → Option Value} {base : Heap} {f : Addr} {fd : FuncData} {F  : DF} (Fn : FunD K "has_turns_alone" "has_turns_alone" (defArgs s_has_turns_alone) (defBody s_has_turns_alone) (defScope s_has_turns_alone) [] [] f fd) (b_all : mg "all" = none) (c_TURNS : ∃ t, mg "TURNS" = some (.str (mk [76, 82]) t))
    (pl : PL_has_turns_alone F) : FnOk P w K mg base CX0 1 f fd ["word"] (spD false 1 F) := by
  obtain ⟨t_TURNS, c_TURNS⟩ := c_TURNS
  refine okD Fn sc_has_turns_alone rfl (fun cdv A outer s H E hr => ?_) pl
  unfold t_has_turns_alone
  exact (ds_one (ds_ret (do_all rfl rfl b_all (do_f (dfr_lc (own := [("sign", 1)]) (by decide) rfl sc_has_turns_alone.nd (di_any (do_nm (pv 0))) (blkOk_by (N := ["word", "sign"]) (sc := defScope s_has_turns_alone) (by decide +kernel)) (fun _ _ _ _ _ => (dg_name sc_has_turns_alone.nd rfl (.inl rfl))) (fun _ _ _ _ _ => dts_nil) (fun _ _ _ _ _ => (do_inS (do_nm (pv 1)) (do_glo (v := .str (mk [76, 82])) rfl c_TURNS ⟨_, rfl⟩ (Sc.str _)))))))))
/-! check_road -/
abbrev s_check_road : Stmt := topS 8
theorem sc_check_road : FnScope ["road"] ["road"] (defScope s_check_road) := ⟨rfl, rfl, rfl, by decide +kernel, rfl, by decide +kernel, by decide +kernel⟩
def t_check_road (F_has_turns_alone : DF) : DTS := (sIf (dNot (dB (dCall 1 F_has_turns_alone (dCons (dN 0) dNil)))) sNever sNext)
abbrev PL_check_road (F F_has_turns_alone : DF) : Prop := ∀ (ds : List PyData) (q : PyData → PyData → Prop) (a : Addr), ds.length = 1 → F ds q → (t_check_road F_has_turns_alone) (endsD false a q) (startD false a 1 ds)
theorem ok_check_road {P : Program} {w : World} {K : PySem.W.Frag} {mg : Str → Option Value} {base : Heap} {f : Addr} {fd : FuncData} {F F_has_turns_alone : DF} (Fn : FunD K "check_road" "check_road" (defArgs s_check_road) (defBody s_check_road) (defScope s_check_road) [] [] f fd) (k_has_turns_alone : Know P w K mg base "has_turns_alone" 1 ["word"] false 1 F_has_turns_alone)
    (pl : PL_check_road F F_has_turns_alone) : FnOk P w K mg base CX0 2 f fd ["road"] (spD false 1 F) := by
  obtain ⟨f_has_turns_alone, fd_has_turns_alone, m_has_turns_alone, kp_has_turns_alone, bd_has_turns_alone, G_has_turns_alone⟩ := k_has_turns_alone.ex
  refine okD Fn sc_check_road rfl (fun cdv A outer s H E hr => ?_) pl
  unfold t_check_road
  exact (ds_one (ds_if (dp_not (dp_val (do_call G_has_turns_alone (hr.mono (by decide)) rfl m_has_turns_alone kp_has_turns_alone bd_has_turns_alone (da_cons (do_nm (pv 0)) da_nil)))) (ds_one ds_never) ds_nil))
/-! check_number -/
abbrev s_check_number : Stmt := topS 9
theorem sc_check_number : FnScope ["number", "least"] ["number", "least"] (defScope s_check_number) := ⟨rfl, rfl, rfl, by decide +kernel, rfl, by decide +kernel, by decide +kernel⟩
def t_check_number : DTS := (sIf (dB (d2 gLt (dN 0) (dN 1))) sNever sNext)
abbrev PL_check_number (F  : DF) : Prop := ∀ (ds : List PyData) (q : PyData → PyData → Prop) (a : Addr), ds.length = 2 → F ds q → (t_check_number) (endsD false a q) (startD false a 2 ds)
theorem ok_check_number {P : Program} {w : World} {K : PySem.W.Frag} {mg : Str → Option Value} {base : Heap} {f : Addr} {fd : FuncData} {F  : DF} (Fn : FunD K "check_number" "check_number" (defArgs s_check_number) (defBody s_check_number) (defScope s_check_number) [] [] f fd)
    (pl : PL_check_number F) : FnOk P w K mg base CX0 1 f fd ["number", "least"] (spD false 2 F) := by
  refine okD Fn sc_check_number rfl (fun cdv A outer s H E hr => ?_) pl
  unfold t_check_number
  exact (ds_one (ds_if (dp_lt (do_nm (pv 0)) (do_nm (pv 1))) (ds_one ds_never) ds_nil))
/-! is_move -/
abbrev s_is_move : Stmt := topS 10
theorem sc_is_move : FnScope ["move", "many", "word", "state"] ["move", "many"] (defScope s_is_move) := ⟨rfl, rfl, rfl, by decide +kernel, rfl, by decide +kernel, by decide +kernel⟩
def t_is_move (F_has_turns_alone : DF) : DTS := (sSeq (sAsg (dN 0) (tgSeq 2 (tgCons (tgN 2) (tgCons (tgN 3) tgNil)))) (sRet (dAndV (dCall 1 F_has_turns_alone (dCons (dN 2) dNil)) (dCh gLe gLt (dC (.int 0)) (dN 3) (dN 1)))))
abbrev PL_is_move (F F_has_turns_alone : DF) : Prop := ∀ (ds : List PyData) (q : PyData → PyData → Prop) (a : Addr), ds.length = 2 → F ds q → (t_is_move F_has_turns_alone) (endsD false a q) (startD false a 4 ds)
theorem ok_is_move {P : Program} {w : World} {K : PySem.W.Frag} {mg : Str → Option Value} {base : Heap} {f : Addr} {fd : FuncData} {F F_has_turns_alone : DF} (Fn : FunD K "is_move" "is_move" (defArgs s_is_move) (defBody s_is_move) (defScope s_is_move) [] [] f fd) (k_has_turns_alone : Know P w K mg base "has_turns_alone" 1 ["word"] false 1 F_has_turns_alone)
    (pl : PL_is_move F F_has_turns_alone) : FnOk P w K mg base CX0 2 f fd ["move", "many"] (spD false 2 F) := by
  obtain ⟨f_has_turns_alone, fd_has_turns_alone, m_has_turns_alone, kp_has_turns_alone, bd_has_turns_alone, G_has_turns_alone⟩ := k_has_turns_alone.ex
  refine okD Fn sc_is_move rfl (fun cdv A outer s H E hr => ?_) pl
  unfold t_is_move
  exact (ds_cons (ds_asg (do_nm (pv 0)) (dg_seq (n := 2) rfl (dgs_cons (dg_name sc_is_move.nd rfl (.inl rfl)) (dgs_cons (dg_name sc_is_move.nd rfl (.inl rfl)) dgs_nil)))) (ds_one (ds_ret (do_and (do_call G_has_turns_alone (hr.mono (by decide)) rfl m_has_turns_alone kp_has_turns_alone bd_has_turns_alone (da_cons (do_nm (pv 2)) da_nil)) (do_one (do_chain op_le op_lt fit_rB0 fit_rB0 do_int (do_nm (pv 3)) (do_nm (pv 1))))))))
/-! check_machine -/
abbrev s_check_machine : Stmt := topS 11
theorem sc_check_machine : FnScope ["machine", "many", "first", "rows", "left", "right", "end"] ["machine"] (defScope s_check_machine) := ⟨rfl, rfl, rfl, by decide +kernel, rfl, by decide +kernel, by decide +kernel⟩
def t_check_machine (F_has_turns_alone F_is_move : DF) : DTS := (sSeq (sAsg (dN 0) (tgSeq 2 (tgCons (tgN 2) (tgCons (tgN 3) tgNil)))) (sSeq (sSet 1 (dB1 (g1 gLen) (dCons (dN 3) dNil))) (sSeq (sIf (dOr (dB (d2x (gEq id) (dN 1) (dC (.int 0)))) (dNot (dB (dCall 1 F_has_turns_alone (dCons (dN 2) dNil))))) sNever sNext) (sFor (iAny (dN 3)) (tgSeq 3 (tgCons (tgN 4) (tgCons (tgN 5) (tgCons (tgN 6) tgNil)))) (sIf (dOr (dNot (dB (dCall 2 F_is_move (dCons (dN 4) (dCons (dN 1) dNil))))) (dOr (dNot (dB (dCall 2 F_is_move (dCons (dN 5) (dCons (dN 1) dNil))))) (dNot (dB (dCall 1 F_has_turns_alone (dCons (dN 6) dNil)))))) sNever sNext)))))
abbrev PL_check_machine (F F_has_turns_alone F_is_move : DF) : Prop := ∀ (ds : List PyData) (q : PyData → PyData → Prop) (a : Addr), ds.length = 1 → F ds q → (t_check_machine F_has_turns_alone F_is_move) (endsD false a q) (startD false a 7 ds)
theorem ok_check_machine {P : Program} {w : World} {K : PySem.W.Frag} {mg : Str → Option Value} {base : Heap} {f : Addr} {fd : FuncData} {F F_has_turns_alone F_is_move : DF} (Fn : FunD K "check_machine" "check_machine" (defArgs s_check_machine) (defBody s_check_machine) (defScope s_check_machine) [] [] f fd) (k_has_turns_alone : Know P w K mg base "has_turns_alone" 1 ["word"] false 1 F_has_turns_alone) (k_is_move : Know P w K mg base "is_move" 2 ["move", "many"] false 2 F_is_move) (b_len : mg "len" = none)
    (pl : PL_check_machine F F_has_turns_alone F_is_move) : FnOk P w K mg base CX0 3 f fd ["machine"] (spD false 1 F) := by
  obtain ⟨f_has_turns_alone, fd_has_turns_alone, m_has_turns_alone, kp_has_turns_alone, bd_has_turns_alone, G_has_turns_alone⟩ := k_has_turns_alone.ex
  obtain ⟨f_is_move, fd_is_move, m_is_move, kp_is_move, bd_is_move, G_is_move⟩ := k_is_move.ex
  refine okD Fn sc_check_machine rfl (fun cdv A outer s H E hr => ?_) pl
  unfold t_check_machine
  exact (ds_cons (ds_asg (do_nm (pv 0)) (dg_seq (n := 2) rfl (dgs_cons (dg_name sc_check_machine.nd rfl (.inl rfl)) (dgs_cons (dg_name sc_check_machine.nd rfl (.inl rfl)) dgs_nil)))) (ds_cons (ds_set sc_check_machine.nd rfl (.inl rfl) (do_len rfl b_len (do_nm (pv 3)))) (ds_cons (ds_if (dp_w (dw_or (dp_eq hr.units (do_nm (pv 1)) do_int) (dw_or1 (dp_not (dp_val (do_call G_has_turns_alone (hr.mono (by decide)) rfl m_has_turns_alone kp_has_turns_alone bd_has_turns_alone (da_cons (do_nm (pv 2)) da_nil))))))) (ds_one ds_never) ds_nil) (ds_one (ds_for .never rfl (di_any (do_nm (pv 3))) (dg_seq (n := 3) rfl (dgs_cons (dg_name sc_check_machine.nd rfl (.inl rfl)) (dgs_cons (dg_name sc_check_machine.nd rfl (.inl rfl)) (dgs_cons (dg_name sc_check_machine.nd rfl (.inl rfl)) dgs_nil)))) (ds_one (ds_if (dp_w (dw_or (dp_not (dp_val (do_call G_is_move (hr.mono (by decide)) rfl m_is_move kp_is_move bd_is_move (da_cons (do_nm (pv 4)) (da_cons (do_nm (pv 1)) da_nil))))) (dw_or (dp_not (dp_val (do_call G_is_move (hr.mono (by decide)) rfl m_is_move kp_is_move bd_is_move (da_cons (do_nm (pv 5)) (da_cons (do_nm (pv 1)) da_nil))))) (dw_or1 (dp_not (dp_val (do_call G_has_turns_alone (hr.mono (by decide)) rfl m_has_turns_alone kp_has_turns_alone bd_has_turns_alone (da_cons (do_nm (pv 6)) da_nil)))))))) (ds_one ds_never) ds_nil)))))))
/-! move_of -/
abbrev s_move_of : Stmt := topS 13
theorem sc_move_of : FnScope ["rows", "state", "turn"] ["rows", "state", "turn"] (defScope s_move_of) := ⟨rfl, rfl, rfl, by decide +kernel, rfl, by decide +kernel, by decide +kernel⟩
def t_move_of : DTS := (sRet (d2 gIx (d2 gIx (dN 0) (dN 1)) (dIf (dB (d2x (gEq id) (dN 2) (dC (S [76])))) (dC (.int 0)) (dC (.int 1)))))
abbrev PL_move_of (F  : DF) : Prop := ∀ (ds : List PyData) (q : PyData → PyData → Prop) (a : Addr), ds.length = 3 → F ds q → (t_move_of) (endsD false a q) (startD false a 3 ds)
theorem ok_move_of {P : Program} {w : World} {K : PySem.W.Frag} {mg : Str → Option Value} {base : Heap} {f : Addr} {fd : FuncData} {F  : DF} (Fn : FunD K "move_of" "move_of" (defArgs s_move_of) (defBody s_move_of) (defScope s_move_of) [] [] f fd)
    (pl : PL_move_of F) : FnOk P w K mg base CX0 1 f fd ["rows", "state", "turn"] (spD false 3 F) := by
  refine okD Fn sc_move_of rfl (fun cdv A outer s H E hr => ?_) pl
  unfold t_move_of
  exact (ds_one (ds_ret (do_ix (do_ix (do_nm (pv 0)) (do_nm (pv 1)) (fun _ _ => rfl)) (do_if (dp_eq hr.units (do_nm (pv 2)) (do_strL [76] (by decide +kernel))) do_int do_int) (fun _ _ => rfl))))
/-! walked_on -/
abbrev s_walked_on : Stmt := topS 14
theorem sc_walked_on : FnScope ["rows", "state", "road", "words", "turn", "word"] ["rows", "state", "road"] (defScope s_walked_on) := ⟨rfl, rfl, rfl, by decide +kernel, rfl, by decide +kernel, by decide +kernel⟩
def t_walked_on (F_move_of : DF) : DTS := (sSeq (sSetF 3 (fLst dNil)) (sSeq (sFor (iAny (dN 2)) (tgN 4) (sSeq (sAsg (dCall 3 F_move_of (dCons (dN 0) (dCons (dN 1) (dCons (dN 4) dNil)))) (tgSeq 2 (tgCons (tgN 5) (tgCons (tgN 1) tgNil)))) (sAppend 3 (dN 5)))) (sRet (dTup (dCons (dM1 gJoin (dC (S [])) (dN 3)) (dCons (dN 1) dNil))))))
abbrev PL_walked_on (F F_move_of : DF) : Prop := ∀ (ds : List PyData) (q : PyData → PyData → Prop) (a : Addr), ds.length = 3 → F ds q → (t_walked_on F_move_of) (endsD false a q) (startD false a 6 ds)
theorem ok_walked_on {P : Program} {w : World} {K : PySem.W.Frag} {mg : Str → Option Value} {base : Heap} {f : Addr} {fd : FuncData} {F F_move_of : DF} (Fn : FunD K "walked_on" "walked_on" (defArgs s_walked_on) (defBody s_walked_on) (defScope s_walked_on) [] [] f fd) (k_move_of : Know P w K mg base "move_of" 1 ["rows", "state", "turn"] false 3 F_move_of)
    (pl : PL_walked_on F F_move_of) : FnOk P w K mg base CX0 2 f fd ["rows", "state", "road"] (spD false 3 F) := by
  obtain ⟨f_move_of, fd_move_of, m_move_of, kp_move_of, bd_move_of, G_move_of⟩ := k_move_of.ex
  refine okD Fn sc_walked_on rfl (fun cdv A outer s H E hr => ?_) pl
  unfold t_walked_on
  exact (ds_cons (ds_setF sc_walked_on.nd rfl (.inl rfl) (dfr_lst da_nil)) (ds_cons (ds_for .never rfl (di_any (do_nm (pv 2))) (dg_name sc_walked_on.nd rfl (.inl rfl)) (ds_cons (ds_asg (do_call G_move_of (hr.mono (by decide)) rfl m_move_of kp_move_of bd_move_of (da_cons (do_nm (pv 0)) (da_cons (do_nm (pv 1)) (da_cons (do_nm (pv 4)) da_nil)))) (dg_seq (n := 2) rfl (dgs_cons (dg_name sc_walked_on.nd rfl (.inl rfl)) (dgs_cons (dg_name sc_walked_on.nd rfl (.inl rfl)) dgs_nil)))) (ds_one (ds_append (pv 3) (do_nm (pv 5)))))) (ds_one (ds_ret (do_tup (da_cons (do_join (do_strL [] (by decide +kernel)) (do_nm (pv 3))) (da_cons (do_nm (pv 1)) da_nil)))))))
/-! run -/
abbrev s_run : Stmt := topS 16
theorem sc_run : FnScope ["machine", "road", "first", "rows", "word", "state"] ["machine", "road"] (defScope s_run) := ⟨rfl, rfl, rfl, by decide +kernel, rfl, by decide +kernel, by decide +kernel⟩
def t_run (F_check_machine F_check_road F_walked_on : DF) : DTS := (sSeq (sDrop (dCall 1 F_check_machine (dCons (dN 0) dNil))) (sSeq (sDrop (dCall 1 F_check_road (dCons (dN 1) dNil))) (sSeq (sAsg (dN 0) (tgSeq 2 (tgCons (tgN 2) (tgCons (tgN 3) tgNil)))) (sSeq (sAsg (dCall 3 F_walked_on (dCons (dN 3) (dCons (dC (.int 0)) (dCons (dN 1) dNil)))) (tgSeq 2 (tgCons (tgN 4) (tgCons (tgN 5) tgNil)))) (sRet (d2 gAdd (d2 gAdd (dN 2) (dN 4)) (d2 gIx (d2 gIx (dN 3) (dN 5)) (dC (.int 2)))))))))
abbrev PL_run (F F_check_machine F_check_road F_walked_on : DF) : Prop := ∀ (ds : List PyData) (q : PyData → PyData → Prop) (a : Addr), ds.length = 2 → F ds q → (t_run F_check_machine F_check_road F_walked_on) (endsD false a q) (startD false a 6 ds)
theorem ok_run {P : Program} {w : World} {K : PySem.W.Frag} {mg : Str → Option Value} {base : Heap} {f : Addr} {fd : FuncData} {F F_check_machine F_check_road F_walked_on : DF} (Fn : FunD K "run" "run" (defArgs s_run) (defBody s_run) (defScope s_run) [] [] f fd) (k_check_machine : Know P w K mg base "check_machine" 3 ["machine"] false 1 F_check_machine) (k_check_road : Know P w K mg base "check_road" 2 ["road"] false 1 F_check_road) (k_walked_on : Know P w K mg base "walked_on" 2 ["rows", "state", "road"] false 3 F_walked_on)
    (pl : PL_run F F_check_machine F_check_road F_walked_on) : FnOk P w K mg base CX0 4 f fd ["machine", "road"] (spD false 2 F) := by
  obtain ⟨f_check_machine, fd_check_machine, m_check_machine, kp_check_machine, bd_check_machine, G_check_machine⟩ := k_check_machine.ex
  obtain ⟨f_check_road, fd_check_road, m_check_road, kp_check_road, bd_check_road, G_check_road⟩ := k_check_road.ex
  obtain ⟨f_walked_on, fd_walked_on, m_walked_on, kp_walked_on, bd_walked_on, G_walked_on⟩ := k_walked_on.ex
  refine okD Fn sc_run rfl (fun cdv A outer s H E hr => ?_) pl
  unfold t_run
  exact (ds_cons (ds_expr (do_call G_check_machine (hr.mono (by decide)) rfl m_check_machine kp_check_machine bd_check_machine (da_cons (do_nm (pv 0)) da_nil))) (ds_cons (ds_expr (do_call G_check_road (hr.mono (by decide)) rfl m_check_road kp_check_road bd_check_road (da_cons (do_nm (pv 1)) da_nil))) (ds_cons (ds_asg (do_nm (pv 0)) (dg_seq (n := 2) rfl (dgs_cons (dg_name sc_run.nd rfl (.inl rfl)) (dgs_cons (dg_name sc_run.nd rfl (.inl rfl)) dgs_nil)))) (ds_cons (ds_asg (do_call G_walked_on (hr.mono (by decide)) rfl m_walked_on kp_walked_on bd_walked_on (da_cons (do_nm (pv 3)) (da_cons do_int (da_cons (do_nm (pv 1)) da_nil)))) (dg_seq (n := 2) rfl (dgs_cons (dg_name sc_run.nd rfl (.inl rfl)) (dgs_cons (dg_name sc_run.nd rfl (.inl rfl)) dgs_nil)))) (ds_one (ds_ret (do_add (do_add (do_nm (pv 2)) (do_nm (pv 4))) (do_ix (do_ix (do_nm (pv 3)) (do_nm (pv 5)) (fun _ _ => rfl)) do_int (fun _ _ => rfl)))))))))
/-! rests -/
abbrev s_rests : Stmt := topS 18
theorem sc_rests : FnScope ["texts", "many", "one", "other"] ["texts"] (defScope s_rests) := ⟨rfl, rfl, rfl, by decide +kernel, rfl, by decide +kernel, by decide +kernel⟩
def t_rests : DTS := (sSeq (sAsg (dN 0) (tgSeq 2 (tgCons (tgN 2) (tgCons (tgN 3) tgNil)))) (sSeq (sSet 1 (dC (.int 0))) (sSeq (sWhile (dAnd (dB (d2 gLt (dN 1) (dB1 gMin (dCons (dB1 (g1 gLen) (dCons (dN 2) dNil)) (dCons (dB1 (g1 gLen) (dCons (dN 3) dNil)) dNil))))) (dB (d2x (gEq id) (d2 gIx (dN 2) (dN 1)) (d2 gIx (dN 3) (dN 1))))) (sAug 1 gAdd (dC (.int 1)))) (sRet (dTup (dCons (dSl (dN 2) (dPt (dN 1)) dNoP) (dCons (dSl (dN 3) (dPt (dN 1)) dNoP) dNil)))))))
abbrev PL_rests (F  : DF) : Prop := ∀ (ds : List PyData) (q : PyData → PyData → Prop) (a : Addr), ds.length = 1 → F ds q → (t_rests) (endsD false a q) (startD false a 4 ds)
theorem ok_rests {P : Program} {w : World} {K : PySem.W.Frag} {mg : Str → Option Value} {base : Heap} {f : Addr} {fd : FuncData} {F  : DF} (Fn : FunD K "rests" "rests" (defArgs s_rests) (defBody s_rests) (defScope s_rests) [] [] f fd) (b_min : mg "min" = none) (b_len : mg "len" = none)
    (pl : PL_rests F) : FnOk P w K mg base CX0 1 f fd ["texts"] (spD false 1 F) := by
  refine okD Fn sc_rests rfl (fun cdv A outer s H E hr => ?_) pl
  unfold t_rests
  exact (ds_cons (ds_asg (do_nm (pv 0)) (dg_seq (n := 2) rfl (dgs_cons (dg_name sc_rests.nd rfl (.inl rfl)) (dgs_cons (dg_name sc_rests.nd rfl (.inl rfl)) dgs_nil)))) (ds_cons (ds_set sc_rests.nd rfl (.inl rfl) do_int) (ds_cons (ds_while .never (dp_w (dw_and (dp_lt (do_nm (pv 1)) (do_min2 rfl rfl b_min (da_cons (do_len rfl b_len (do_nm (pv 2))) (da_cons (do_len rfl b_len (do_nm (pv 3))) da_nil)))) (dw_and1 (dp_eq hr.units (do_ix (do_nm (pv 2)) (do_nm (pv 1)) (fun _ _ => rfl)) (do_ix (do_nm (pv 3)) (do_nm (pv 1)) (fun _ _ => rfl)))))) (ds_one (ds_augAdd sc_rests.nd rfl (.inl rfl) do_int))) (ds_one (ds_ret (do_tup (da_cons (do_sl (do_nm (pv 2)) (dpo_some (do_nm (pv 1))) dpo_none) (da_cons (do_sl (do_nm (pv 3)) (dpo_some (do_nm (pv 1))) dpo_none) da_nil))))))))
/-! roads_to -/
abbrev s_roads_to : Stmt := topS 20
theorem sc_roads_to : FnScope ["length", "found", "at"] ["length"] (defScope s_roads_to) := ⟨rfl, rfl, rfl, by decide +kernel, rfl, by decide +kernel, by decide +kernel⟩
def t_roads_to : DTS := (sSeq (sPar 1 2 (afF (fLst (dCons (dC (S [])) dNil)) (afV (dC (.int 0)) afNil))) (sSeq (sWhile (dB (d2 gLt (dB1 (g1 gLen) (dCons (d2 gIx (dN 1) (dN 2)) dNil)) (dN 0))) (sSeq (sExtend 1 (dLst (dCons (d2 gAdd (d2 gIx (dN 1) (dN 2)) (dC (S [76]))) (dCons (d2 gAdd (d2 gIx (dN 1) (dN 2)) (dC (S [82]))) dNil)))) (sAug 2 gAdd (dC (.int 1))))) (sRet (dN 1))))
abbrev PL_roads_to (F  : DF) : Prop := ∀ (ds : List PyData) (q : PyData → PyData → Prop) (a : Addr), ds.length = 1 → F ds q → (t_roads_to) (endsD false a q) (startD false a 3 ds)
theorem ok_roads_to {P : Program} {w : World} {K : PySem.W.Frag} {mg : Str → Option Value} {base : Heap} {f : Addr} {fd : FuncData} {F  : DF} (Fn : FunD K "roads_to" "roads_to" (defArgs s_roads_to) (defBody s_roads_to) (defScope s_roads_to) [] [] f fd) (b_len : mg "len" = none)
    (pl : PL_roads_to F) : FnOk P w K mg base CX0 1 f fd ["length"] (spD false 1 F) := by
  refine okD Fn sc_roads_to rfl (fun cdv A outer s H E hr => ?_) pl
  unfold t_roads_to
  exact (ds_cons (ds_par rfl sc_roads_to.nd rfl rfl (by decide) rfl rfl (daf_f (dfr_lst (da_cons (do_strL [] (by decide +kernel)) da_nil)) (daf_v do_int daf_nil)) rfl) (ds_cons (ds_while .never (dp_lt (do_len rfl b_len (do_ix (do_nm (pv 1)) (do_nm (pv 2)) (fun _ _ => rfl))) (do_nm (pv 0))) (ds_cons (ds_extend (pv 1) (do_lst (da_cons (do_add (do_ix (do_nm (pv 1)) (do_nm (pv 2)) (fun _ _ => rfl)) (do_strL [76] (by decide +kernel))) (da_cons (do_add (do_ix (do_nm (pv 1)) (do_nm (pv 2)) (fun _ _ => rfl)) (do_strL [82] (by decide +kernel))) da_nil)))) (ds_one (ds_augAdd sc_roads_to.nd rfl (.inl rfl) do_int)))) (ds_one (ds_ret (do_nm (pv 1))))))
/-! mark_of -/
abbrev s_mark_of : Stmt := topS 21
theorem sc_mark_of : FnScope ["table", "road", "later", "parts", "rest", "one", "other"] ["table", "road", "later"] (defScope s_mark_of) := ⟨rfl, rfl, rfl, by decide +kernel, rfl, by decide +kernel, by decide +kernel⟩
def t_mark_of (F_rests : DF) : DTS := (sSeq (sSetF 3 (fLst dNil)) (sSeq (sFor (iAny (dN 2)) (tgN 4) (sSeq (sAsg (dCall 1 F_rests (dCons (dTup (dCons (d2 gDGet (dN 0) (dN 1)) (dCons (d2 gDGet (dN 0) (d2 gAdd (dN 1) (dN 4))) dNil))) dNil)) (tgSeq 2 (tgCons (tgN 5) (tgCons (tgN 6) tgNil)))) (sAppend 3 (d2 gAdd (d2 gAdd (dN 5) (dC (S [45]))) (dN 6))))) (sRet (dM1 gJoin (dC (S [32])) (dN 3)))))
abbrev PL_mark_of (F F_rests : DF) : Prop := ∀ (ds : List PyData) (q : PyData → PyData → Prop) (a : Addr), ds.length = 3 → F ds q → (t_mark_of F_rests) (endsD false a q) (startD false a 7 ds)
theorem ok_mark_of {P : Program} {w : World} {K : PySem.W.Frag} {mg : Str → Option Value} {base : Heap} {f : Addr} {fd : FuncData} {F F_rests : DF} (Fn : FunD K "mark_of" "mark_of" (defArgs s_mark_of) (defBody s_mark_of) (defScope s_mark_of) [] [] f fd) (k_rests : Know P w K mg base "rests" 1 ["texts"] false 1 F_rests)
    (pl : PL_mark_of F F_rests) : FnOk P w K mg base CX0 2 f fd ["table", "road", "later"] (spD false 3 F) := by
  obtain ⟨f_rests, fd_rests, m_rests, kp_rests, bd_rests, G_rests⟩ := k_rests.ex
  refine okD Fn sc_mark_of rfl (fun cdv A outer s H E hr => ?_) pl
  unfold t_mark_of
  exact (ds_cons (ds_setF sc_mark_of.nd rfl (.inl rfl) (dfr_lst da_nil)) (ds_cons (ds_for .never rfl (di_any (do_nm (pv 2))) (dg_name sc_mark_of.nd rfl (.inl rfl)) (ds_cons (ds_asg (do_call G_rests (hr.mono (by decide)) rfl m_rests kp_rests bd_rests (da_cons (do_tup (da_cons (do_dget (hu_of hr) (do_nm (pv 0)) (do_nm (pv 1)) (fun _ _ => rfl)) (da_cons (do_dget (hu_of hr) (do_nm (pv 0)) (do_add (do_nm (pv 1)) (do_nm (pv 4))) (fun _ _ => rfl)) da_nil))) da_nil)) (dg_seq (n := 2) rfl (dgs_cons (dg_name sc_mark_of.nd rfl (.inl rfl)) (dgs_cons (dg_name sc_mark_of.nd rfl (.inl rfl)) dgs_nil)))) (ds_one (ds_append (pv 3) (do_add (do_add (do_nm (pv 5)) (do_strL [45] (by decide +kernel))) (do_nm (pv 6))))))) (ds_one (ds_ret (do_join (do_strL [32] (by decide +kernel)) (do_nm (pv 3)))))))
/-! classes_of -/
abbrev s_classes_of : Stmt := topS 22
theorem sc_classes_of : FnScope ["table", "most", "later", "roads", "numbers", "moves", "pair", "turn", "road", "mark"] ["table", "most"] (defScope s_classes_of) := ⟨rfl, rfl, rfl, by decide +kernel, rfl, by decide +kernel, by decide +kernel⟩
def t_classes_of (F_roads_to F_mark_of : DF) : DTS := (sSeq (sSet 2 (dCall 1 F_roads_to (dCons (d2 gSub (dN 1) (dC (.int 1))) dNil))) (sSeq (sPar3 3 4 5 (afF (fLst (dCons (dC (S [])) dNil)) (afF (fD1 (dCall 3 F_mark_of (dCons (dN 0) (dCons (dC (S [])) (dCons (dN 2) dNil)))) (dC (.int 0))) (afF (fLst dNil) afNil)))) (sSeq (sWhile (dB (d2 gLt (dB1 (g1 gLen) (dCons (dN 5) dNil)) (dB1 (g1 gLen) (dCons (dN 3) dNil)))) (sSeq (sSetF 6 (fLst dNil)) (sSeq (sFor (iAny (dC (S [76, 82]))) (tgN 7) (sSeq (sSet 8 (d2 gAdd (d2 gIx (dN 3) (dB1 (g1 gLen) (dCons (dN 5) dNil))) (dN 7))) (sSeq (sSet 9 (dCall 3 F_mark_of (dCons (dN 0) (dCons (dN 8) (dCons (dN 2) dNil))))) (sSeq (sIf (dB (d2 (gDIn (!·)) (dN 9) (dN 4))) (sSeq (sDPut 4 (dN 9) (dB1 (g1 gLen) (dCons (dN 3) dNil))) (sAppend 3 (dN 8))) sNext) (sAppend 6 (d2 gDGet (dN 4) (dN 9))))))) (sSeq (sIf (dB (d2 gGt (dB1 (g1 gLen) (dCons (dN 3) dNil)) (dN 1))) (sRet (dC .none)) sNext) (sAppend 5 (dN 6)))))) (sRet (dTup (dCons (dN 3) (dCons (dN 5) dNil)))))))
abbrev PL_classes_of (F F_roads_to F_mark_of : DF) : Prop := ∀ (ds : List PyData) (q : PyData → PyData → Prop) (a : Addr), ds.length = 2 → F ds q → (t_classes_of F_roads_to F_mark_of) (endsD false a q) (startD false a 10 ds)
theorem ok_classes_of {P : Program} {w : World} {K : PySem.W.Frag} {mg : Str → Option Value} {base : Heap} {f : Addr} {fd : FuncData} {F F_roads_to F_mark_of : DF} (Fn : FunD K "classes_of" "classes_of" (defArgs s_classes_of) (defBody s_classes_of) (defScope s_classes_of) [] [] f fd) (k_roads_to : Know P w K mg base "roads_to" 1 ["length"] false 1 F_roads_to) (k_mark_of : Know P w K mg base "mark_of" 2 ["table", "road", "later"] false 3 F_mark_of) (b_len : mg "len" = none)
    (pl : PL_classes_of F F_roads_to F_mark_of) : FnOk P w K mg base CX0 3 f fd ["table", "most"] (spD false 2 F) := by
  obtain ⟨f_roads_to, fd_roads_to, m_roads_to, kp_roads_to, bd_roads_to, G_roads_to⟩ := k_roads_to.ex
  obtain ⟨f_mark_of, fd_mark_of, m_mark_of, kp_mark_of, bd_mark_of, G_mark_of⟩ := k_mark_of.ex
  refine okD Fn sc_classes_of rfl (fun cdv A outer s H E hr => ?_) pl
  unfold t_classes_of
  exact (ds_cons (ds_set sc_classes_of.nd rfl (.inl rfl) (do_call G_roads_to (hr.mono (by decide)) rfl m_roads_to kp_roads_to bd_roads_to (da_cons (do_sub (do_nm (pv 1)) do_int) da_nil))) (ds_cons (ds_par3 rfl sc_classes_of.nd rfl rfl rfl (by decide) (by decide) (by decide) rfl rfl rfl (daf_f (dfr_lst (da_cons (do_strL [] (by decide +kernel)) da_nil)) (daf_f (dfr_d1 (do_call G_mark_of (hr.mono (by decide)) rfl m_mark_of kp_mark_of bd_mark_of (da_cons (do_nm (pv 0)) (da_cons (do_strL [] (by decide +kernel)) (da_cons (do_nm (pv 2)) da_nil)))) do_int) (daf_f (dfr_lst da_nil) daf_nil))) rfl) (ds_cons (ds_while .never (dp_lt (do_len rfl b_len (do_nm (pv 5))) (do_len rfl b_len (do_nm (pv 3)))) (ds_cons (ds_setF sc_classes_of.nd rfl (.inl rfl) (dfr_lst da_nil)) (ds_cons (ds_for .never rfl (di_any (do_strL [76, 82] (by decide +kernel))) (dg_name sc_classes_of.nd rfl (.inl rfl)) (ds_cons (ds_set sc_classes_of.nd rfl (.inl rfl) (do_add (do_ix (do_nm (pv 3)) (do_len rfl b_len (do_nm (pv 5))) (fun _ _ => rfl)) (do_nm (pv 7)))) (ds_cons (ds_set sc_classes_of.nd rfl (.inl rfl) (do_call G_mark_of (hr.mono (by decide)) rfl m_mark_of kp_mark_of bd_mark_of (da_cons (do_nm (pv 0)) (da_cons (do_nm (pv 8)) (da_cons (do_nm (pv 2)) da_nil))))) (ds_cons (ds_if (dp_dnotin (hu_of hr) (do_nm (pv 9)) (do_nm (pv 4))) (ds_cons (ds_dput (hu_of hr) (pv 4) (do_nm (pv 9)) (do_len rfl b_len (do_nm (pv 3)))) (ds_one (ds_append (pv 3) (do_nm (pv 8))))) ds_nil) (ds_one (ds_append (pv 6) (do_dget (hu_of hr) (do_nm (pv 4)) (do_nm (pv 9)) (fun _ _ => rfl)))))))) (ds_cons (ds_if (dp_gt (do_len rfl b_len (do_nm (pv 3))) (do_nm (pv 1))) (ds_one (ds_ret do_non)) ds_nil) (ds_one (ds_append (pv 5) (do_nm (pv 6)))))))) (ds_one (ds_ret (do_tup (da_cons (do_nm (pv 3)) (da_cons (do_nm (pv 5)) da_nil))))))))
/-! sure_of -/
abbrev s_sure_of : Stmt := topS 23
theorem sc_sure_of : FnScope ["table", "road", "pair", "ends", "sure", "side", "word"] ["table", "road", "pair", "ends"] (defScope s_sure_of) := ⟨rfl, rfl, rfl, by decide +kernel, rfl, by decide +kernel, by decide +kernel⟩
def t_sure_of (F_rests : DF) : DTS := (sSeq (sSet 4 (d2 gDGet (dN 0) (dN 1))) (sSeq (sFor (iR1 (dCons (dC (.int 2)) dNil)) (tgN 5) (sSeq (sSet 6 (d2 gDGet (dN 0) (d2 gAdd (dN 1) (d2 gIx (dC (S [76, 82])) (dN 5))))) (sSeq (sIf (dB (d2 gGt (d2 gIx (dN 3) (d2 gIx (dN 2) (dN 5))) (dB1 (g1 gLen) (dCons (dN 6) dNil)))) (sRet (dC .none)) sNext) (sSeq (sSet 6 (dSl (dN 6) dNoP (dPt (d2 gSub (dB1 (g1 gLen) (dCons (dN 6) dNil)) (d2 gIx (dN 3) (d2 gIx (dN 2) (dN 5))))))) (sSet 4 (dSl (dN 4) dNoP (dPt (d2 gSub (dB1 (g1 gLen) (dCons (dN 4) dNil)) (dB1 (g1 gLen) (dCons (d2 gIx (dCall 1 F_rests (dCons (dTup (dCons (dN 4) (dCons (dN 6) dNil))) dNil)) (dC (.int 0))) dNil)))))))))) (sRet (dN 4))))
abbrev PL_sure_of (F F_rests : DF) : Prop := ∀ (ds : List PyData) (q : PyData → PyData → Prop) (a : Addr), ds.length = 4 → F ds q → (t_sure_of F_rests) (endsD false a q) (startD false a 7 ds)
theorem ok_sure_of {P : Program} {w : World} {K : PySem.W.Frag} {mg : Str → Option Value} {base : Heap} {f : Addr} {fd : FuncData} {F F_rests : DF} (Fn : FunD K "sure_of" "sure_of" (defArgs s_sure_of) (defBody s_sure_of) (defScope s_sure_of) [] [] f fd) (k_rests : Know P w K mg base "rests" 1 ["texts"] false 1 F_rests) (b_range : mg "range" = none) (b_len : mg "len" = none)
    (pl : PL_sure_of F F_rests) : FnOk P w K mg base CX0 2 f fd ["table", "road", "pair", "ends"] (spD false 4 F) := by
  obtain ⟨f_rests, fd_rests, m_rests, kp_rests, bd_rests, G_rests⟩ := k_rests.ex
  refine okD Fn sc_sure_of rfl (fun cdv A outer s H E hr => ?_) pl
  unfold t_sure_of
  exact (ds_cons (ds_set sc_sure_of.nd rfl (.inl rfl) (do_dget (hu_of hr) (do_nm (pv 0)) (do_nm (pv 1)) (fun _ _ => rfl))) (ds_cons (ds_for .never rfl (di_range1 rfl b_range (da_cons do_int da_nil)) (dg_name sc_sure_of.nd rfl (.inl rfl)) (ds_cons (ds_set sc_sure_of.nd rfl (.inl rfl) (do_dget (hu_of hr) (do_nm (pv 0)) (do_add (do_nm (pv 1)) (do_ix (do_strL [76, 82] (by decide +kernel)) (do_nm (pv 5)) (fun _ _ => rfl))) (fun _ _ => rfl))) (ds_cons (ds_if (dp_gt (do_ix (do_nm (pv 3)) (do_ix (do_nm (pv 2)) (do_nm (pv 5)) (fun _ _ => rfl)) (fun _ _ => rfl)) (do_len rfl b_len (do_nm (pv 6)))) (ds_one (ds_ret do_non)) ds_nil) (ds_cons (ds_set sc_sure_of.nd rfl (.inl rfl) (do_sl (do_nm (pv 6)) dpo_none (dpo_some (do_sub (do_len rfl b_len (do_nm (pv 6))) (do_ix (do_nm (pv 3)) (do_ix (do_nm (pv 2)) (do_nm (pv 5)) (fun _ _ => rfl)) (fun _ _ => rfl)))))) (ds_one (ds_set sc_sure_of.nd rfl (.inl rfl) (do_sl (do_nm (pv 4)) dpo_none (dpo_some (do_sub (do_len rfl b_len (do_nm (pv 4))) (do_len rfl b_len (do_ix (do_call G_rests (hr.mono (by decide)) rfl m_rests kp_rests bd_rests (da_cons (do_tup (da_cons (do_nm (pv 4)) (da_cons (do_nm (pv 6)) da_nil))) da_nil)) do_int (fun _ _ => rfl)))))))))))) (ds_one (ds_ret (do_nm (pv 4))))))
/-! ends_of -/
abbrev s_ends_of : Stmt := topS 24
theorem sc_ends_of : FnScope ["table", "roads", "moves", "ends", "grows", "road", "state", "sure"] ["table", "roads", "moves"] (defScope s_ends_of) := ⟨rfl, rfl, rfl, by decide +kernel, rfl, by decide +kernel, by decide +kernel⟩
def t_ends_of (F_sure_of : DF) : DTS := (sSeq (sSetF 3 (fLc (iAny (dN 1)) (tgN 5) dYes (dC (.int 0)) [5])) (sSeq (sSet 4 (dC (.bool true))) (sSeq (sWhile (dB (dN 4)) (sSeq (sSet 4 (dC (.bool false))) (sFor (iEnumD (dN 1)) (tgSeq 2 (tgCons (tgN 6) (tgCons (tgN 5) tgNil))) (sSeq (sSet 7 (dCall 4 F_sure_of (dCons (dN 0) (dCons (dN 5) (dCons (d2 gIx (dN 2) (dN 6)) (dCons (dN 3) dNil)))))) (sSeq (sIf (dB (d2x (gIs id) (dN 7) (dC .none))) (sRet (dC .none)) sNext) (sSeq (sSet 4 (dOrV (dN 4) (d2 gGt (d2 gSub (dB1 (g1 gLen) (dCons (d2 gDGet (dN 0) (dN 5)) dNil)) (dB1 (g1 gLen) (dCons (dN 7) dNil))) (d2 gIx (dN 3) (dN 6))))) (sSetIx 3 (dN 6) (d2 gSub (dB1 (g1 gLen) (dCons (d2 gDGet (dN 0) (dN 5)) dNil)) (dB1 (g1 gLen) (dCons (dN 7) dNil)))))))))) (sRet (dN 3)))))
abbrev PL_ends_of (F F_sure_of : DF) : Prop := ∀ (ds : List PyData) (q : PyData → PyData → Prop) (a : Addr), ds.length = 3 → F ds q → (t_ends_of F_sure_of) (endsD false a q) (startD false a 8 ds)
theorem ok_ends_of {P : Program} {w : World} {K : PySem.W.Frag} {mg : Str → Option Value} {base : Heap} {f : Addr} {fd : FuncData} {F F_sure_of : DF} (Fn : FunD K "ends_of" "ends_of" (defArgs s_ends_of) (defBody s_ends_of) (defScope s_ends_of) [] [] f fd) (k_sure_of : Know P w K mg base "sure_of" 2 ["table", "road", "pair", "ends"] false 4 F_sure_of) (b_enumerate : mg "enumerate" = none) (b_len : mg "len" = none)
    (pl : PL_ends_of F F_sure_of) : FnOk P w K mg base CX0 3 f fd ["table", "roads", "moves"] (spD false 3 F) := by
  obtain ⟨f_sure_of, fd_sure_of, m_sure_of, kp_sure_of, bd_sure_of, G_sure_of⟩ := k_sure_of.ex
  refine okD Fn sc_ends_of rfl (fun cdv A outer s H E hr => ?_) pl
  unfold t_ends_of
  exact (ds_cons (ds_setLc (own := [("road", 5)]) (by decide) rfl sc_ends_of.nd rfl rfl rfl (di_any (do_nm (pv 1))) (blkOk_by (N := ["table", "roads", "moves", "ends", "grows", "road", "state", "sure"]) (sc := defScope s_ends_of) (by decide +kernel)) (fun _ _ _ _ _ => (dg_name sc_ends_of.nd rfl (.inl rfl))) (fun _ _ _ _ _ => dts_nil) (fun _ _ _ _ _ => do_int)) (ds_cons (ds_set sc_ends_of.nd rfl (.inl rfl) do_bl) (ds_cons (ds_while .never (dp_val (do_nm (pv 4))) (ds_cons (ds_set sc_ends_of.nd rfl (.inl rfl) do_bl) (ds_one (ds_for .never rfl (di_enum rfl b_enumerate (do_nm (pv 1))) (dg_seq (n := 2) rfl (dgs_cons (dg_name sc_ends_of.nd rfl (.inl rfl)) (dgs_cons (dg_name sc_ends_of.nd rfl (.inl rfl)) dgs_nil))) (ds_cons (ds_set sc_ends_of.nd rfl (.inl rfl) (do_call G_sure_of (hr.mono (by decide)) rfl m_sure_of kp_sure_of bd_sure_of (da_cons (do_nm (pv 0)) (da_cons (do_nm (pv 5)) (da_cons (do_ix (do_nm (pv 2)) (do_nm (pv 6)) (fun _ _ => rfl)) (da_cons (do_nm (pv 3)) da_nil)))))) (ds_cons (ds_if (dp_is (do_nm (pv 7)) do_non) (ds_one (ds_ret do_non)) ds_nil) (ds_cons (ds_set sc_ends_of.nd rfl (.inl rfl) (do_or (do_nm (pv 4)) (do_one (do_gt (do_sub (do_len rfl b_len (do_dget (hu_of hr) (do_nm (pv 0)) (do_nm (pv 5)) (fun _ _ => rfl))) (do_len rfl b_len (do_nm (pv 7)))) (do_ix (do_nm (pv 3)) (do_nm (pv 6)) (fun _ _ => rfl)))))) (ds_one (ds_setIx (pv 3) (do_nm (pv 6)) (do_sub (do_len rfl b_len (do_dget (hu_of hr) (do_nm (pv 0)) (do_nm (pv 5)) (fun _ _ => rfl))) (do_len rfl b_len (do_nm (pv 7))))))))))))) (ds_one (ds_ret (do_nm (pv 3)))))))
/-! word_between -/
abbrev s_word_between : Stmt := topS 25
theorem sc_word_between : FnScope ["table", "road", "turn", "end", "later_end", "word"] ["table", "road", "turn", "end", "later_end"] (defScope s_word_between) := ⟨rfl, rfl, rfl, by decide +kernel, rfl, by decide +kernel, by decide +kernel⟩
def t_word_between : DTS := (sSeq (sSet 5 (d2 gDGet (dN 0) (d2 gAdd (dN 1) (dN 2)))) (sRet (dSl (dN 5) (dPt (d2 gSub (dB1 (g1 gLen) (dCons (d2 gDGet (dN 0) (dN 1)) dNil)) (dN 3))) (dPt (d2 gSub (dB1 (g1 gLen) (dCons (dN 5) dNil)) (dN 4))))))
abbrev PL_word_between (F  : DF) : Prop := ∀ (ds : List PyData) (q : PyData → PyData → Prop) (a : Addr), ds.length = 5 → F ds q → (t_word_between) (endsD false a q) (startD false a 6 ds)
theorem ok_word_between {P : Program} {w : World} {K : PySem.W.Frag} {mg : Str → Option Value} {base : Heap} {f : Addr} {fd : FuncData} {F  : DF} (Fn : FunD K "word_between" "word_between" (defArgs s_word_between) (defBody s_word_between) (defScope s_word_between) [] [] f fd) (b_len : mg "len" = none)
    (pl : PL_word_between F) : FnOk P w K mg base CX0 1 f fd ["table", "road", "turn", "end", "later_end"] (spD false 5 F) := by
  refine okD Fn sc_word_between rfl (fun cdv A outer s H E hr => ?_) pl
  unfold t_word_between
  exact (ds_cons (ds_set sc_word_between.nd rfl (.inl rfl) (do_dget (hu_of hr) (do_nm (pv 0)) (do_add (do_nm (pv 1)) (do_nm (pv 2))) (fun _ _ => rfl))) (ds_one (ds_ret (do_sl (do_nm (pv 5)) (dpo_some (do_sub (do_len rfl b_len (do_dget (hu_of hr) (do_nm (pv 0)) (do_nm (pv 1)) (fun _ _ => rfl))) (do_nm (pv 3)))) (dpo_some (do_sub (do_len rfl b_len (do_nm (pv 5))) (do_nm (pv 4))))))))
/-! machine_from -/
abbrev s_machine_from : Stmt := topS 26
theorem sc_machine_from : FnScope ["words", "most", "word", "all_roads", "table", "found", "ends", "rows", "machine", "road", "pair", "end", "left", "right", "side"] ["words", "most"] (defScope s_machine_from) := ⟨rfl, rfl, rfl, by decide +kernel, rfl, by decide +kernel, by decide +kernel⟩
def t_machine_from (F_check_number F_check_road F_roads_to F_classes_of F_ends_of F_word_between F_run : DF) : DTS := (sSeq (sDrop (dCall 2 F_check_number (dCons (dN 1) (dCons (dC (.int 1)) dNil)))) (sSeq (sFor (iAny (dN 0)) (tgN 2) (sDrop (dCall 1 F_check_road (dCons (dN 2) dNil)))) (sSeq (sSet 3 (dCall 1 F_roads_to (dCons (d2 gSub (d2 gMul (dC (.int 2)) (dN 1)) (dC (.int 1))) dNil))) (sSeq (sIf (dB (d2x (gEq (!·)) (dB1 (g1 gLen) (dCons (dN 0) dNil)) (dB1 (g1 gLen) (dCons (dN 3) dNil)))) sNever sNext) (sSeq (sSet 4 (dOfF (fDZip (dCons (dN 3) (dCons (dN 0) dNil))))) (sSeq (sSet 5 (dCall 2 F_classes_of (dCons (dN 4) (dCons (dN 1) dNil)))) (sSeq (sSet 6 (dIf (dB (d2x (gIs id) (dN 5) (dC .none))) (dC .none) (dCall 3 F_ends_of (dCons (dN 4) (dCons (d2 gIx (dN 5) (dC (.int 0))) (dCons (d2 gIx (dN 5) (dC (.int 1))) dNil)))))) (sSeq (sIf (dB (d2x (gIs id) (dN 6) (dC .none))) (sRet (dC .none)) sNext) (sSeq (sSetF 7 (fLst dNil)) (sSeq (sFor (iZ3 (dCons (d2 gIx (dN 5) (dC (.int 0))) (dCons (d2 gIx (dN 5) (dC (.int 1))) (dCons (dN 6) dNil)))) (tgSeq 3 (tgCons (tgN 9) (tgCons (tgN 10) (tgCons (tgN 11) tgNil)))) (sSeq (sAsg (dOfF (fLc (iR1 (dCons (dC (.int 2)) dNil)) (tgN 14) dYes (dTup (dCons (dCall 5 F_word_between (dCons (dN 4) (dCons (dN 9) (dCons (d2 gIx (dC (S [76, 82])) (dN 14)) (dCons (dN 11) (dCons (d2 gIx (dN 6) (d2 gIx (dN 10) (dN 14))) dNil)))))) (dCons (d2 gIx (dN 10) (dN 14)) dNil))) [14])) (tgSeq 2 (tgCons (tgN 12) (tgCons (tgN 13) tgNil)))) (sAppend 7 (dTup (dCons (dN 12) (dCons (dN 13) (dCons (dSl (d2 gDGet (dN 4) (dN 9)) (dPt (d2 gSub (dB1 (g1 gLen) (dCons (d2 gDGet (dN 4) (dN 9)) dNil)) (dN 11))) dNoP) dNil))))))) (sSeq (sSet 8 (dTup (dCons (dSl (d2 gDGet (dN 4) (dC (S []))) dNoP (dPt (d2 gSub (dB1 (g1 gLen) (dCons (d2 gDGet (dN 4) (dC (S []))) dNil)) (d2 gIx (dN 6) (dC (.int 0)))))) (dCons (dN 7) dNil)))) (sRet (dIf (dB (d2x (gEq id) (dOfF (fLc (iAny (dN 3)) (tgN 9) dYes (dCall 2 F_run (dCons (dN 8) (dCons (dN 9) dNil))) [9])) (dB1 (g1 gListOf) (dCons (dN 0) dNil)))) (dN 8) (dC .none))))))))))))))
abbrev PL_machine_from (F F_check_number F_check_road F_roads_to F_classes_of F_ends_of F_word_between F_run : DF) : Prop := ∀ (ds : List PyData) (q : PyData → PyData → Prop) (a : Addr), ds.length = 2 → F ds q → (t_machine_from F_check_number F_check_road F_roads_to F_classes_of F_ends_of F_word_between F_run) (endsD false a q) (startD false a 15 ds)
theorem ok_machine_from {P : Program} {w : World} {K : PySem.W.Frag} {mg : Str → Option Value} {base : Heap} {f : Addr} {fd : FuncData} {F F_check_number F_check_road F_roads_to F_classes_of F_ends_of F_word_between F_run : DF} (Fn : FunD K "machine_from" "machine_from" (defArgs s_machine_from) (defBody s_machine_from) (defScope s_machine_from) [] [] f fd) (k_check_number : Know P w K mg base "check_number" 1 ["number", "least"] false 2 F_check_number) (k_check_road : Know P w K mg base "check_road" 2 ["road"] false 1 F_check_road) (k_roads_to : Know P w K mg base "roads_to" 1 ["length"] false 1 F_roads_to) (k_classes_of : Know P w K mg base "classes_of" 3 ["table", "most"] false 2 F_classes_of) (k_ends_of : Know P w K mg base "ends_of" 3 ["table", "roads", "moves"] false 3 F_ends_of) (k_word_between : Know P w K mg base "word_between" 1 ["table", "road", "turn", "end", "later_end"] false 5 F_word_between) (k_run : Know P w K mg base "run" 4 ["machine", "road"] false 2 F_run) (b_len : mg "len" = none) (b_dict : mg "dict" = none) (b_zip : mg "zip" = none) (b_range : mg "range" = none) (b_list : mg "list" = none)
    (pl : PL_machine_from F F_check_number F_check_road F_roads_to F_classes_of F_ends_of F_word_between F_run) : FnOk P w K mg base CX0 5 f fd ["words", "most"] (spD false 2 F) := by
  obtain ⟨f_check_number, fd_check_number, m_check_number, kp_check_number, bd_check_number, G_check_number⟩ := k_check_number.ex
  obtain ⟨f_check_road, fd_check_road, m_check_road, kp_check_road, bd_check_road, G_check_road⟩ := k_check_road.ex
  obtain ⟨f_roads_to, fd_roads_to, m_roads_to, kp_roads_to, bd_roads_to, G_roads_to⟩ := k_roads_to.ex
  obtain ⟨f_classes_of, fd_classes_of, m_classes_of, kp_classes_of, bd_classes_of, G_classes_of⟩ := k_classes_of.ex
  obtain ⟨f_ends_of, fd_ends_of, m_ends_of, kp_ends_of, bd_ends_of, G_ends_of⟩ := k_ends_of.ex
  obtain ⟨f_word_between, fd_word_between, m_word_between, kp_word_between, bd_word_between, G_word_between⟩ := k_word_between.ex
  obtain ⟨f_run, fd_run, m_run, kp_run, bd_run, G_run⟩ := k_run.ex
  refine okD Fn sc_machine_from rfl (fun cdv A outer s H E hr => ?_) pl
  unfold t_machine_from
  exact (ds_cons (ds_expr (do_call G_check_number (hr.mono (by decide)) rfl m_check_number kp_check_number bd_check_number (da_cons (do_nm (pv 1)) (da_cons do_int da_nil)))) (ds_cons (ds_for .never rfl (di_any (do_nm (pv 0))) (dg_name sc_machine_from.nd rfl (.inl rfl)) (ds_one (ds_expr (do_call G_check_road (hr.mono (by decide)) rfl m_check_road kp_check_road bd_check_road (da_cons (do_nm (pv 2)) da_nil))))) (ds_cons (ds_set sc_machine_from.nd rfl (.inl rfl) (do_call G_roads_to (hr.mono (by decide)) rfl m_roads_to kp_roads_to bd_roads_to (da_cons (do_sub (do_mul do_int (do_nm (pv 1))) do_int) da_nil))) (ds_cons (ds_if (dp_ne hr.units (do_len rfl b_len (do_nm (pv 0))) (do_len rfl b_len (do_nm (pv 3)))) (ds_one ds_never) ds_nil) (ds_cons (ds_set sc_machine_from.nd rfl (.inr rfl) (do_f (dfr_dzip rfl b_dict rfl b_zip rfl (da_cons (do_nm (pv 3)) (da_cons (do_nm (pv 0)) da_nil))))) (ds_cons (ds_set sc_machine_from.nd rfl (.inl rfl) (do_call G_classes_of (hr.mono (by decide)) rfl m_classes_of kp_classes_of bd_classes_of (da_cons (do_nm (pv 4)) (da_cons (do_nm (pv 1)) da_nil)))) (ds_cons (ds_set sc_machine_from.nd rfl (.inr rfl) (do_if (dp_is (do_nm (pv 5)) do_non) do_non (do_call G_ends_of (hr.mono (by decide)) rfl m_ends_of kp_ends_of bd_ends_of (da_cons (do_nm (pv 4)) (da_cons (do_ix (do_nm (pv 5)) do_int (fun _ _ => rfl)) (da_cons (do_ix (do_nm (pv 5)) do_int (fun _ _ => rfl)) da_nil)))))) (ds_cons (ds_if (dp_is (do_nm (pv 6)) do_non) (ds_one (ds_ret do_non)) ds_nil) (ds_cons (ds_setF sc_machine_from.nd rfl (.inl rfl) (dfr_lst da_nil)) (ds_cons (ds_for .never rfl (di_zip3 rfl b_zip (da_cons (do_ix (do_nm (pv 5)) do_int (fun _ _ => rfl)) (da_cons (do_ix (do_nm (pv 5)) do_int (fun _ _ => rfl)) (da_cons (do_nm (pv 6)) da_nil)))) (dg_seq (n := 3) rfl (dgs_cons (dg_name sc_machine_from.nd rfl (.inr rfl)) (dgs_cons (dg_name sc_machine_from.nd rfl (.inr rfl)) (dgs_cons (dg_name sc_machine_from.nd rfl (.inr rfl)) dgs_nil)))) (ds_cons (ds_asg (do_f (dfr_lc (own := [("side", 14)]) (by decide) rfl sc_machine_from.nd (di_range1 rfl b_range (da_cons do_int da_nil)) (blkOk_by (N := ["words", "most", "word", "all_roads", "table", "found", "ends", "rows", "machine", "road", "pair", "end", "left", "right", "side"]) (sc := defScope s_machine_from) (by decide +kernel)) (fun _ _ _ _ _ => (dg_name sc_machine_from.nd rfl (.inl rfl))) (fun _ _ _ _ _ => dts_nil) (fun _ _ _ _ _ => (do_tup (da_cons (do_call G_word_between (hr.mono (by decide)) rfl m_word_between kp_word_between bd_word_between (da_cons (do_nm (pv 4)) (da_cons (do_nm (pv 9)) (da_cons (do_ix (do_strL [76, 82] (by decide +kernel)) (do_nm (pv 14)) (fun _ _ => rfl)) (da_cons (do_nm (pv 11)) (da_cons (do_ix (do_nm (pv 6)) (do_ix (do_nm (pv 10)) (do_nm (pv 14)) (fun _ _ => rfl)) (fun _ _ => rfl)) da_nil)))))) (da_cons (do_ix (do_nm (pv 10)) (do_nm (pv 14)) (fun _ _ => rfl)) da_nil)))))) (dg_seq (n := 2) rfl (dgs_cons (dg_name sc_machine_from.nd rfl (.inl rfl)) (dgs_cons (dg_name sc_machine_from.nd rfl (.inl rfl)) dgs_nil)))) (ds_one (ds_append (pv 7) (do_tup (da_cons (do_nm (pv 12)) (da_cons (do_nm (pv 13)) (da_cons (do_sl (do_dget (hu_of hr) (do_nm (pv 4)) (do_nm (pv 9)) (fun _ _ => rfl)) (dpo_some (do_sub (do_len rfl b_len (do_dget (hu_of hr) (do_nm (pv 4)) (do_nm (pv 9)) (fun _ _ => rfl))) (do_nm (pv 11)))) dpo_none) da_nil)))))))) (ds_cons (ds_set sc_machine_from.nd rfl (.inr rfl) (do_tup (da_cons (do_sl (do_dget (hu_of hr) (do_nm (pv 4)) (do_strL [] (by decide +kernel)) (fun _ _ => rfl)) dpo_none (dpo_some (do_sub (do_len rfl b_len (do_dget (hu_of hr) (do_nm (pv 4)) (do_strL [] (by decide +kernel)) (fun _ _ => rfl))) (do_ix (do_nm (pv 6)) do_int (fun _ _ => rfl))))) (da_cons (do_nm (pv 7)) da_nil)))) (ds_one (ds_ret (do_if (dp_eq hr.units (do_f (dfr_lc (own := [("road", 9)]) (by decide) rfl sc_machine_from.nd (di_any (do_nm (pv 3))) (blkOk_by (N := ["words", "most", "word", "all_roads", "table", "found", "ends", "rows", "machine", "road", "pair", "end", "left", "right", "side"]) (sc := defScope s_machine_from) (by decide +kernel)) (fun _ _ _ _ _ => (dg_name sc_machine_from.nd rfl (.inl rfl))) (fun _ _ _ _ _ => dts_nil) (fun _ _ _ _ _ => (do_call G_run (hr.mono (by decide)) rfl m_run kp_run bd_run (da_cons (do_nm (pv 8)) (da_cons (do_nm (pv 9)) da_nil)))))) (do_listOf rfl b_list (do_nm (pv 0)))) (do_nm (pv 8)) do_non))))))))))))))
/-! _law_coin -/
abbrev s_law_coin : Stmt := topS 29
theorem sc_law_coin : FnScope ["purse", "many", "stirred", "drawn"] ["purse", "many"] (defScope s_law_coin) := ⟨rfl, rfl, rfl, by decide +kernel, rfl, by decide +kernel, by decide +kernel⟩
def t_law_coin : DTS := (sSeq (sIf (dB (d2 gGt (d2 gIx (dN 0) (dC (.int 0))) (dC (.int 0)))) (sSeq (sSet 3 (d2 gMod (dB1 (g1 gInt) (dCons (d2 gIx (dN 0) (dC (.int 0))) dNil)) (dN 1))) (sSeq (sSetIx 0 (dC (.int 0)) (d2 gDiv (d2 gIx (dN 0) (dC (.int 0))) (dN 1))) (sRet (dN 3)))) sNext) (sSeq (sSetIx 0 (dC (.int 2)) (d2 gAdd (d2 gIx (dN 0) (dC (.int 2))) (dC (.int 1)))) (sSeq (sSet 2 (d2 gMod (d2 gPow (dB1 (g1 gInt) (dCons (d2 gAdd (d2 gIx (dN 0) (dC (.int 1))) (d2 gMul (dC (.int 2038074743)) (d2 gIx (dN 0) (dC (.int 2))))) dNil)) (dC (.int 3))) (d2 gAdd (d2 gPow (dC (.int 10)) (dC (.int 25))) (dC (.int 13))))) (sSeq (sSet 2 (d2 gMod (d2 gPow (dB1 (g1 gInt) (dCons (d2 gAdd (dN 2) (d2 gMul (dC (.int 982451653)) (d2 gIx (dN 0) (dC (.int 2))))) dNil)) (dC (.int 2))) (d2 gAdd (d2 gPow (dC (.int 10)) (dC (.int 24))) (dC (.int 7))))) (sRet (d2 gMod (dB1 (g1 gInt) (dCons (d2 gDiv (dN 2) (dC (.int 1024))) dNil)) (dN 1)))))))
abbrev PL_law_coin (F  : DF) : Prop := ∀ (ds : List PyData) (q : PyData → PyData → Prop) (a : Addr), ds.length = 2 → F ds q → (t_law_coin) (endsD true a q) (startD true a 4 ds)
theorem ok_law_coin {P : Program} {w : World} {K : PySem.W.Frag} {mg : Str → Option Value} {base : Heap} {f : Addr} {fd : FuncData} {F  : DF} (Fn : FunD K "_law_coin" "_law_coin" (defArgs s_law_coin) (defBody s_law_coin) (defScope s_law_coin) [] [] f fd) (b_int : mg "int" = none)
    (pl : PL_law_coin F) : FnOk P w K mg base CX0 1 f fd ["purse", "many"] (spD true 2 F) := by
  refine okD Fn sc_law_coin rfl (fun cdv A outer s H E hr => ?_) pl
  unfold t_law_coin
  exact (ds_cons (ds_if (dp_gt (do_ix (do_nm (pv 0)) do_int (fun _ _ => rfl)) do_int) (ds_cons (ds_set sc_law_coin.nd rfl (.inl rfl) (do_mod (do_int1 rfl b_int (do_ix (do_nm (pv 0)) do_int (fun _ _ => rfl))) (do_nm (pv 1)))) (ds_cons (ds_setIx (pv 0) do_int (do_fdiv (do_ix (do_nm (pv 0)) do_int (fun _ _ => rfl)) (do_nm (pv 1)))) (ds_one (ds_ret (do_nm (pv 3)))))) ds_nil) (ds_cons (ds_setIx (pv 0) do_int (do_add (do_ix (do_nm (pv 0)) do_int (fun _ _ => rfl)) do_int)) (ds_cons (ds_set sc_law_coin.nd rfl (.inl rfl) (do_mod (do_pow (do_int1 rfl b_int (do_add (do_ix (do_nm (pv 0)) do_int (fun _ _ => rfl)) (do_mul do_int (do_ix (do_nm (pv 0)) do_int (fun _ _ => rfl))))) do_int) (do_add (do_pow do_int do_int) do_int))) (ds_cons (ds_set sc_law_coin.nd rfl (.inl rfl) (do_mod (do_pow (do_int1 rfl b_int (do_add (do_nm (pv 2)) (do_mul do_int (do_ix (do_nm (pv 0)) do_int (fun _ _ => rfl))))) do_int) (do_add (do_pow do_int do_int) do_int))) (ds_one (ds_ret (do_mod (do_int1 rfl b_int (do_fdiv (do_nm (pv 2)) do_int)) (do_nm (pv 1)))))))))
/-! _law_bk_way -/
abbrev s_law_bk_way : Stmt := topS 30
theorem sc_law_bk_way : FnScope ["purse", "top", "found", "turn"] ["purse", "top"] (defScope s_law_bk_way) := ⟨rfl, rfl, rfl, by decide +kernel, rfl, by decide +kernel, by decide +kernel⟩
def t_law_bk_way (F_law_coin : DF) : DTS := (sSeq (sSet 2 (dC (S []))) (sSeq (sFor (iR1 (dCons (dCallM 2 F_law_coin (dCons (dN 0) (dCons (d2 gAdd (dN 1) (dC (.int 1))) dNil))) dNil)) (tgN 3) (sSet 2 (d2 gAdd (dN 2) (d2 gIx (dC (S [76, 82])) (dCallM 2 F_law_coin (dCons (dN 0) (dCons (dC (.int 2)) dNil))))))) (sRet (dN 2))))
abbrev PL_law_bk_way (F F_law_coin : DF) : Prop := ∀ (ds : List PyData) (q : PyData → PyData → Prop) (a : Addr), ds.length = 2 → F ds q → (t_law_bk_way F_law_coin) (endsD true a q) (startD true a 4 ds)
theorem ok_law_bk_way {P : Program} {w : World} {K : PySem.W.Frag} {mg : Str → Option Value} {base : Heap} {f : Addr} {fd : FuncData} {F F_law_coin : DF} (Fn : FunD K "_law_bk_way" "_law_bk_way" (defArgs s_law_bk_way) (defBody s_law_bk_way) (defScope s_law_bk_way) [] [] f fd) (k_law_coin : Know P w K mg base "_law_coin" 1 ["purse", "many"] true 2 F_law_coin) (b_range : mg "range" = none)
    (pl : PL_law_bk_way F F_law_coin) : FnOk P w K mg base CX0 2 f fd ["purse", "top"] (spD true 2 F) := by
  obtain ⟨f_law_coin, fd_law_coin, m_law_coin, kp_law_coin, bd_law_coin, G_law_coin⟩ := k_law_coin.ex
  refine okD Fn sc_law_bk_way rfl (fun cdv A outer s H E hr => ?_) pl
  unfold t_law_bk_way
  exact (ds_cons (ds_set sc_law_bk_way.nd rfl (.inl rfl) (do_strL [] (by decide +kernel))) (ds_cons (ds_for .never rfl (di_range1 rfl b_range (da_cons (do_callM G_law_coin (hr.mono (by decide)) rfl m_law_coin kp_law_coin bd_law_coin (da_cons (do_nm (pv 0)) (da_cons (do_add (do_nm (pv 1)) do_int) da_nil))) da_nil)) (dg_name sc_law_bk_way.nd rfl (.inl rfl)) (ds_one (ds_set sc_law_bk_way.nd rfl (.inl rfl) (do_add (do_nm (pv 2)) (do_ix (do_strL [76, 82] (by decide +kernel)) (do_callM G_law_coin (hr.mono (by decide)) rfl m_law_coin kp_law_coin bd_law_coin (da_cons (do_nm (pv 0)) (da_cons do_int da_nil))) (fun _ _ => rfl)))))) (ds_one (ds_ret (do_nm (pv 2))))))
/-! _law_bk_shape -/
abbrev s_law_bk_shape : Stmt := topS 31
theorem sc_law_bk_shape : FnScope ["purse", "many", "top", "rows", "state", "left", "right"] ["purse", "many", "top"] (defScope s_law_bk_shape) := ⟨rfl, rfl, rfl, by decide +kernel, rfl, by decide +kernel, by decide +kernel⟩
def t_law_bk_shape (F_law_bk_way F_law_coin : DF) : DTS := (sSeq (sSetF 3 (fLst dNil)) (sSeq (sFor (iR1 (dCons (dN 1) dNil)) (tgN 4) (sSeq (sSet 5 (dTup (dCons (dCallM 2 F_law_bk_way (dCons (dN 0) (dCons (dN 2) dNil))) (dCons (dCallM 2 F_law_coin (dCons (dN 0) (dCons (dN 1) dNil))) dNil)))) (sSeq (sSet 6 (dTup (dCons (dCallM 2 F_law_bk_way (dCons (dN 0) (dCons (dN 2) dNil))) (dCons (dCallM 2 F_law_coin (dCons (dN 0) (dCons (dN 1) dNil))) dNil)))) (sAppend 3 (dTup (dCons (dN 5) (dCons (dN 6) (dCons (dCallM 2 F_law_bk_way (dCons (dN 0) (dCons (dN 2) dNil))) dNil)))))))) (sRet (dTup (dCons (dCallM 2 F_law_bk_way (dCons (dN 0) (dCons (dN 2) dNil))) (dCons (dN 3) dNil))))))
abbrev PL_law_bk_shape (F F_law_bk_way F_law_coin : DF) : Prop := ∀ (ds : List PyData) (q : PyData → PyData → Prop) (a : Addr), ds.length = 3 → F ds q → (t_law_bk_shape F_law_bk_way F_law_coin) (endsD true a q) (startD true a 7 ds)
theorem ok_law_bk_shape {P : Program} {w : World} {K : PySem.W.Frag} {mg : Str → Option Value} {base : Heap} {f : Addr} {fd : FuncData} {F F_law_bk_way F_law_coin : DF} (Fn : FunD K "_law_bk_shape" "_law_bk_shape" (defArgs s_law_bk_shape) (defBody s_law_bk_shape) (defScope s_law_bk_shape) [] [] f fd) (k_law_bk_way : Know P w K mg base "_law_bk_way" 2 ["purse", "top"] true 2 F_law_bk_way) (k_law_coin : Know P w K mg base "_law_coin" 1 ["purse", "many"] true 2 F_law_coin) (b_range : mg "range" = none)
    (pl : PL_law_bk_shape F F_law_bk_way F_law_coin) : FnOk P w K mg base CX0 3 f fd ["purse", "many", "top"] (spD true 3 F) := by
  obtain ⟨f_law_bk_way, fd_law_bk_way, m_law_bk_way, kp_law_bk_way, bd_law_bk_way, G_law_bk_way⟩ := k_law_bk_way.ex
  obtain ⟨f_law_coin, fd_law_coin, m_law_coin, kp_law_coin, bd_law_coin, G_law_coin⟩ := k_law_coin.ex
  refine okD Fn sc_law_bk_shape rfl (fun cdv A outer s H E hr => ?_) pl
  unfold t_law_bk_shape
  exact (ds_cons (ds_setF sc_law_bk_shape.nd rfl (.inl rfl) (dfr_lst da_nil)) (ds_cons (ds_for .never rfl (di_range1 rfl b_range (da_cons (do_nm (pv 1)) da_nil)) (dg_name sc_law_bk_shape.nd rfl (.inl rfl)) (ds_cons (ds_set sc_law_bk_shape.nd rfl (.inl rfl) (do_tup (da_cons (do_callM G_law_bk_way (hr.mono (by decide)) rfl m_law_bk_way kp_law_bk_way bd_law_bk_way (da_cons (do_nm (pv 0)) (da_cons (do_nm (pv 2)) da_nil))) (da_cons (do_callM G_law_coin (hr.mono (by decide)) rfl m_law_coin kp_law_coin bd_law_coin (da_cons (do_nm (pv 0)) (da_cons (do_nm (pv 1)) da_nil))) da_nil)))) (ds_cons (ds_set sc_law_bk_shape.nd rfl (.inl rfl) (do_tup (da_cons (do_callM G_law_bk_way (hr.mono (by decide)) rfl m_law_bk_way kp_law_bk_way bd_law_bk_way (da_cons (do_nm (pv 0)) (da_cons (do_nm (pv 2)) da_nil))) (da_cons (do_callM G_law_coin (hr.mono (by decide)) rfl m_law_coin kp_law_coin bd_law_coin (da_cons (do_nm (pv 0)) (da_cons (do_nm (pv 1)) da_nil))) da_nil)))) (ds_one (ds_append (pv 3) (do_tup (da_cons (do_nm (pv 5)) (da_cons (do_nm (pv 6)) (da_cons (do_callM G_law_bk_way (hr.mono (by decide)) rfl m_law_bk_way kp_law_bk_way bd_law_bk_way (da_cons (do_nm (pv 0)) (da_cons (do_nm (pv 2)) da_nil))) da_nil))))))))) (ds_one (ds_ret (do_tup (da_cons (do_callM G_law_bk_way (hr.mono (by decide)) rfl m_law_bk_way kp_law_bk_way bd_law_bk_way (da_cons (do_nm (pv 0)) (da_cons (do_nm (pv 2)) da_nil))) (da_cons (do_nm (pv 3)) da_nil)))))))
/-! _law_bk_walk -/
abbrev s_law_bk_walk : Stmt := topS 32
theorem sc_law_bk_walk : FnScope ["shape", "way", "sign", "found", "state", "text"] ["shape", "way"] (defScope s_law_bk_walk) := ⟨rfl, rfl, rfl, by decide +kernel, rfl, by decide +kernel, by decide +kernel⟩
def t_law_bk_walk : DTS := (sSeq (sPar 3 4 (afV (d2 gIx (dN 0) (dC (.int 0))) (afV (dC (.int 0)) afNil))) (sSeq (sFor (iAny (dN 1)) (tgN 2) (sSeq (sAsg (d2 gIx (d2 gIx (d2 gIx (dN 0) (dC (.int 1))) (dN 4)) (dM1 gIndex (dC (S [76, 82])) (dN 2))) (tgSeq 2 (tgCons (tgN 5) (tgCons (tgN 4) tgNil)))) (sSet 3 (d2 gAdd (dN 3) (dN 5))))) (sRet (dTup (dCons (dN 3) (dCons (dN 4) dNil))))))
abbrev PL_law_bk_walk (F  : DF) : Prop := ∀ (ds : List PyData) (q : PyData → PyData → Prop) (a : Addr), ds.length = 2 → F ds q → (t_law_bk_walk) (endsD false a q) (startD false a 6 ds)
theorem ok_law_bk_walk {P : Program} {w : World} {K : PySem.W.Frag} {mg : Str → Option Value} {base : Heap} {f : Addr} {fd : FuncData} {F  : DF} (Fn : FunD K "_law_bk_walk" "_law_bk_walk" (defArgs s_law_bk_walk) (defBody s_law_bk_walk) (defScope s_law_bk_walk) [] [] f fd)
    (pl : PL_law_bk_walk F) : FnOk P w K mg base CX0 1 f fd ["shape", "way"] (spD false 2 F) := by
  refine okD Fn sc_law_bk_walk rfl (fun cdv A outer s H E hr => ?_) pl
  unfold t_law_bk_walk
  exact (ds_cons (ds_par rfl sc_law_bk_walk.nd rfl rfl (by decide) rfl rfl (daf_v (do_ix (do_nm (pv 0)) do_int (fun _ _ => rfl)) (daf_v do_int daf_nil)) rfl) (ds_cons (ds_for .never rfl (di_any (do_nm (pv 1))) (dg_name sc_law_bk_walk.nd rfl (.inl rfl)) (ds_cons (ds_asg (do_ix (do_ix (do_ix (do_nm (pv 0)) do_int (fun _ _ => rfl)) (do_nm (pv 4)) (fun _ _ => rfl)) (do_index (do_strL [76, 82] (by decide +kernel)) (do_nm (pv 2))) (fun _ _ => rfl)) (dg_seq (n := 2) rfl (dgs_cons (dg_name sc_law_bk_walk.nd rfl (.inl rfl)) (dgs_cons (dg_name sc_law_bk_walk.nd rfl (.inl rfl)) dgs_nil)))) (ds_one (ds_set sc_law_bk_walk.nd rfl (.inl rfl) (do_add (do_nm (pv 3)) (do_nm (pv 5))))))) (ds_one (ds_ret (do_tup (da_cons (do_nm (pv 3)) (da_cons (do_nm (pv 4)) da_nil)))))))
/-! _law_bk_run -/
abbrev s_law_bk_run : Stmt := topS 33
theorem sc_law_bk_run : FnScope ["shape", "way", "found", "state"] ["shape", "way"] (defScope s_law_bk_run) := ⟨rfl, rfl, rfl, by decide +kernel, rfl, by decide +kernel, by decide +kernel⟩
def t_law_bk_run (F_law_bk_walk : DF) : DTS := (sSeq (sAsg (dCall 2 F_law_bk_walk (dCons (dN 0) (dCons (dN 1) dNil))) (tgSeq 2 (tgCons (tgN 2) (tgCons (tgN 3) tgNil)))) (sRet (d2 gAdd (dN 2) (d2 gIx (d2 gIx (d2 gIx (dN 0) (dC (.int 1))) (dN 3)) (dC (.int 2))))))
abbrev PL_law_bk_run (F F_law_bk_walk : DF) : Prop := ∀ (ds : List PyData) (q : PyData → PyData → Prop) (a : Addr), ds.length = 2 → F ds q → (t_law_bk_run F_law_bk_walk) (endsD false a q) (startD false a 4 ds)
theorem ok_law_bk_run {P : Program} {w : World} {K : PySem.W.Frag} {mg : Str → Option Value} {base : Heap} {f : Addr} {fd : FuncData} {F F_law_bk_walk : DF} (Fn : FunD K "_law_bk_run" "_law_bk_run" (defArgs s_law_bk_run) (defBody s_law_bk_run) (defScope s_law_bk_run) [] [] f fd) (k_law_bk_walk : Know P w K mg base "_law_bk_walk" 1 ["shape", "way"] false 2 F_law_bk_walk)
    (pl : PL_law_bk_run F F_law_bk_walk) : FnOk P w K mg base CX0 2 f fd ["shape", "way"] (spD false 2 F) := by
  obtain ⟨f_law_bk_walk, fd_law_bk_walk, m_law_bk_walk, kp_law_bk_walk, bd_law_bk_walk, G_law_bk_walk⟩ := k_law_bk_walk.ex
  refine okD Fn sc_law_bk_run rfl (fun cdv A outer s H E hr => ?_) pl
  unfold t_law_bk_run
  exact (ds_cons (ds_asg (do_call G_law_bk_walk (hr.mono (by decide)) rfl m_law_bk_walk kp_law_bk_walk bd_law_bk_walk (da_cons (do_nm (pv 0)) (da_cons (do_nm (pv 1)) da_nil))) (dg_seq (n := 2) rfl (dgs_cons (dg_name sc_law_bk_run.nd rfl (.inl rfl)) (dgs_cons (dg_name sc_law_bk_run.nd rfl (.inl rfl)) dgs_nil)))) (ds_one (ds_ret (do_add (do_nm (pv 2)) (do_ix (do_ix (do_ix (do_nm (pv 0)) do_int (fun _ _ => rfl)) (do_nm (pv 3)) (fun _ _ => rfl)) do_int (fun _ _ => rfl))))))
/-! _law_due -/
abbrev s_law_due : Stmt := topS 34
theorem sc_law_due : FnScope ["rows", "turn", "stop", "left", "right", "size_here", "last", "good", "text", "near"] ["rows"] (defScope s_law_due) := ⟨rfl, rfl, rfl, by decide +kernel, rfl, by decide +kernel, by decide +kernel⟩
def t_law_due : DTS := (sSeq (sAsg (dN 0) (tgSeq 3 (tgCons (tgN 2) (tgCons (tgN 3) (tgCons (tgN 4) tgNil))))) (sSeq (sFor (iR1 (dCons (d2 gAdd (dB1 (g1 gLen) (dCons (dN 2) dNil)) (dC (.int 1))) dNil)) (tgN 1) (sSeq (sSet 5 (d2 gSub (dB1 (g1 gLen) (dCons (dN 2) dNil)) (dN 1))) (sSeq (sSet 6 (dSl (dN 2) (dPt (dN 5)) dNoP)) (sSeq (sSet 7 (dAndV (d2 gGe (dB1 (g1 gLen) (dCons (dN 3) dNil)) (dB1 (g1 gLen) (dCons (dN 2) dNil))) (d2 gGe (dB1 (g1 gLen) (dCons (dN 4) dNil)) (dB1 (g1 gLen) (dCons (dN 2) dNil))))) (sSeq (sFor (iAny (dTup (dCons (dN 3) (dCons (dN 4) dNil)))) (tgN 8) (sSet 7 (dAndV (dN 7) (dAndV (d2x (gEq id) (dSl (dN 8) dNoP (dPt (dN 5))) (dSl (dN 2) dNoP (dPt (dN 5)))) (d2x (gEq id) (dSl (dN 8) (dPt (d2 gSub (dB1 (g1 gLen) (dCons (dN 8) dNil)) (dB1 (g1 gLen) (dCons (dN 6) dNil)))) dNoP) (dN 6)))))) (sIf (dB (dN 7)) (sSeq (sSet 9 (dSl (dN 3) (dPt (dN 5)) (dPt (d2 gSub (dB1 (g1 gLen) (dCons (dN 3) dNil)) (dB1 (g1 gLen) (dCons (dN 6) dNil)))))) (sRet (dTup (dCons (dSl (dN 2) dNoP (dPt (dN 5))) (dCons (dLst (dCons (dTup (dCons (dTup (dCons (dN 9) (dCons (dC (.int 0)) dNil))) (dCons (dTup (dCons (dSl (dN 4) (dPt (dN 5)) (dPt (d2 gSub (dB1 (g1 gLen) (dCons (dN 4) dNil)) (dB1 (g1 gLen) (dCons (dN 6) dNil))))) (dCons (dC (.int 0)) dNil))) (dCons (dN 6) dNil)))) dNil)) dNil))))) sNext)))))) (sRet (dC .none))))
abbrev PL_law_due (F  : DF) : Prop := ∀ (ds : List PyData) (q : PyData → PyData → Prop) (a : Addr), ds.length = 1 → F ds q → (t_law_due) (endsD false a q) (startD false a 10 ds)
theorem ok_law_due {P : Program} {w : World} {K : PySem.W.Frag} {mg : Str → Option Value} {base : Heap} {f : Addr} {fd : FuncData} {F  : DF} (Fn : FunD K "_law_due" "_law_due" (defArgs s_law_due) (defBody s_law_due) (defScope s_law_due) [] [] f fd) (b_range : mg "range" = none) (b_len : mg "len" = none)
    (pl : PL_law_due F) : FnOk P w K mg base CX0 1 f fd ["rows"] (spD false 1 F) := by
  refine okD Fn sc_law_due rfl (fun cdv A outer s H E hr => ?_) pl
  unfold t_law_due
  exact (ds_cons (ds_asg (do_nm (pv 0)) (dg_seq (n := 3) rfl (dgs_cons (dg_name sc_law_due.nd rfl (.inl rfl)) (dgs_cons (dg_name sc_law_due.nd rfl (.inl rfl)) (dgs_cons (dg_name sc_law_due.nd rfl (.inl rfl)) dgs_nil))))) (ds_cons (ds_for .never rfl (di_range1 rfl b_range (da_cons (do_add (do_len rfl b_len (do_nm (pv 2))) do_int) da_nil)) (dg_name sc_law_due.nd rfl (.inl rfl)) (ds_cons (ds_set sc_law_due.nd rfl (.inl rfl) (do_sub (do_len rfl b_len (do_nm (pv 2))) (do_nm (pv 1)))) (ds_cons (ds_set sc_law_due.nd rfl (.inl rfl) (do_sl (do_nm (pv 2)) (dpo_some (do_nm (pv 5))) dpo_none)) (ds_cons (ds_set sc_law_due.nd rfl (.inl rfl) (do_and (do_ge (do_len rfl b_len (do_nm (pv 3))) (do_len rfl b_len (do_nm (pv 2)))) (do_one (do_ge (do_len rfl b_len (do_nm (pv 4))) (do_len rfl b_len (do_nm (pv 2))))))) (ds_cons (ds_for .never rfl (di_any (do_tup (da_cons (do_nm (pv 3)) (da_cons (do_nm (pv 4)) da_nil)))) (dg_name sc_law_due.nd rfl (.inl rfl)) (ds_one (ds_set sc_law_due.nd rfl (.inl rfl) (do_and (do_nm (pv 7)) (do_and (do_eq hr.units (do_sl (do_nm (pv 8)) dpo_none (dpo_some (do_nm (pv 5)))) (do_sl (do_nm (pv 2)) dpo_none (dpo_some (do_nm (pv 5))))) (do_one (do_eq hr.units (do_sl (do_nm (pv 8)) (dpo_some (do_sub (do_len rfl b_len (do_nm (pv 8))) (do_len rfl b_len (do_nm (pv 6))))) dpo_none) (do_nm (pv 6))))))))) (ds_one (ds_if (dp_val (do_nm (pv 7))) (ds_cons (ds_set sc_law_due.nd rfl (.inl rfl) (do_sl (do_nm (pv 3)) (dpo_some (do_nm (pv 5))) (dpo_some (do_sub (do_len rfl b_len (do_nm (pv 3))) (do_len rfl b_len (do_nm (pv 6))))))) (ds_one (ds_ret (do_tup (da_cons (do_sl (do_nm (pv 2)) dpo_none (dpo_some (do_nm (pv 5)))) (da_cons (do_lst (da_cons (do_tup (da_cons (do_tup (da_cons (do_nm (pv 9)) (da_cons do_int da_nil))) (da_cons (do_tup (da_cons (do_sl (do_nm (pv 4)) (dpo_some (do_nm (pv 5))) (dpo_some (do_sub (do_len rfl b_len (do_nm (pv 4))) (do_len rfl b_len (do_nm (pv 6)))))) (da_cons do_int da_nil))) (da_cons (do_nm (pv 6)) da_nil)))) da_nil)) da_nil)))))) ds_nil))))))) (ds_one (ds_ret do_non))))
/-! _law_rows -/
abbrev s_law_rows : Stmt := topS 35
theorem sc_law_rows : FnScope ["purse", "shape", "rows", "text", "pick", "spot", "at", "way", "turn"] ["purse"] (defScope s_law_rows) := ⟨rfl, rfl, rfl, by decide +kernel, rfl, by decide +kernel, by decide +kernel⟩
def t_law_rows (F_law_bk_shape F_law_coin F_law_bk_run F_law_bk_way : DF) : DTS := (sSeq (sSet 1 (dCallM 3 F_law_bk_shape (dCons (dN 0) (dCons (dC (.int 1)) (dCons (d2 gIx (dLst (dCons (dC (.int 4)) (dCons (dC (.int 19)) dNil))) (dCallM 2 F_law_coin (dCons (dN 0) (dCons (dC (.int 2)) dNil)))) dNil))))) (sSeq (sSetF 2 (fLc (iAny (dTup (dCons (dC (S [])) (dCons (dC (S [76])) (dCons (dC (S [82])) dNil))))) (tgN 7) dYes (dCall 2 F_law_bk_run (dCons (dN 1) (dCons (dN 7) dNil))) [7])) (sSeq (sPar 4 5 (afV (dCallM 2 F_law_coin (dCons (dN 0) (dCons (dC (.int 6)) dNil))) (afV (dCallM 2 F_law_coin (dCons (dN 0) (dCons (dC (.int 3)) dNil))) afNil))) (sSeq (sSet 3 (d2 gIx (dN 2) (dN 5))) (sSeq (sIf (dB (d2x (gEq id) (dN 4) (dC (.int 0)))) (sRet (dOfF (fLc (iR1 (dCons (dC (.int 3)) dNil)) (tgN 8) dYes (dCallM 2 F_law_bk_way (dCons (dN 0) (dCons (dC (.int 5)) dNil))) [8]))) sNext) (sSeq (sIf (dB (d2x (gEq id) (dN 4) (dC (.int 1)))) (sSetIx 2 (dN 5) (d2 gAdd (dN 3) (d2 gIx (dC (S [76, 82])) (dCallM 2 F_law_coin (dCons (dN 0) (dCons (dC (.int 2)) dNil)))))) sNext) (sSeq (sIf (dB (d2x (gEq id) (dN 4) (dC (.int 2)))) (sSetIx 2 (dN 5) (dSl (dN 3) (dPt (dC (.int 1))) dNoP)) sNext) (sSeq (sIf (dB (d2x (gEq id) (dN 4) (dC (.int 3)))) (sSeq (sSet 6 (dCallM 2 F_law_coin (dCons (dN 0) (dCons (d2 gAdd (dB1 (g1 gLen) (dCons (dN 3) dNil)) (dC (.int 1))) dNil)))) (sSetIx 2 (dN 5) (d2 gAdd (d2 gAdd (dSl (dN 3) dNoP (dPt (dN 6))) (d2 gIx (dC (S [76, 82])) (dCallM 2 F_law_coin (dCons (dN 0) (dCons (dC (.int 2)) dNil))))) (dSl (dN 3) (dPt (d2 gAdd (dN 6) (dC (.int 1)))) dNoP)))) sNext) (sRet (dN 2))))))))))
abbrev PL_law_rows (F F_law_bk_shape F_law_coin F_law_bk_run F_law_bk_way : DF) : Prop := ∀ (ds : List PyData) (q : PyData → PyData → Prop) (a : Addr), ds.length = 1 → F ds q → (t_law_rows F_law_bk_shape F_law_coin F_law_bk_run F_law_bk_way) (endsD true a q) (startD true a 9 ds)
theorem ok_law_rows {P : Program} {w : World} {K : PySem.W.Frag} {mg : Str → Option Value} {base : Heap} {f : Addr} {fd : FuncData} {F F_law_bk_shape F_law_coin F_law_bk_run F_law_bk_way : DF} (Fn : FunD K "_law_rows" "_law_rows" (defArgs s_law_rows) (defBody s_law_rows) (defScope s_law_rows) [] [] f fd) (k_law_bk_shape : Know P w K mg base "_law_bk_shape" 3 ["purse", "many", "top"] true 3 F_law_bk_shape) (k_law_coin : Know P w K mg base "_law_coin" 1 ["purse", "many"] true 2 F_law_coin) (k_law_bk_run : Know P w K mg base "_law_bk_run" 2 ["shape", "way"] false 2 F_law_bk_run) (k_law_bk_way : Know P w K mg base "_law_bk_way" 2 ["purse", "top"] true 2 F_law_bk_way) (b_range : mg "range" = none) (b_len : mg "len" = none)
    (pl : PL_law_rows F F_law_bk_shape F_law_coin F_law_bk_run F_law_bk_way) : FnOk P w K mg base CX0 4 f fd ["purse"] (spD true 1 F) := by
  obtain ⟨f_law_bk_shape, fd_law_bk_shape, m_law_bk_shape, kp_law_bk_shape, bd_law_bk_shape, G_law_bk_shape⟩ := k_law_bk_shape.ex
  obtain ⟨f_law_coin, fd_law_coin, m_law_coin, kp_law_coin, bd_law_coin, G_law_coin⟩ := k_law_coin.ex
  obtain ⟨f_law_bk_run, fd_law_bk_run, m_law_bk_run, kp_law_bk_run, bd_law_bk_run, G_law_bk_run⟩ := k_law_bk_run.ex
  obtain ⟨f_law_bk_way, fd_law_bk_way, m_law_bk_way, kp_law_bk_way, bd_law_bk_way, G_law_bk_way⟩ := k_law_bk_way.ex
  refine okD Fn sc_law_rows rfl (fun cdv A outer s H E hr => ?_) pl
  unfold t_law_rows
  exact (ds_cons (ds_set sc_law_rows.nd rfl (.inr rfl) (do_callM G_law_bk_shape (hr.mono (by decide)) rfl m_law_bk_shape kp_law_bk_shape bd_law_bk_shape (da_cons (do_nm (pv 0)) (da_cons do_int (da_cons (do_ix (do_lst (da_cons do_int (da_cons do_int da_nil))) (do_callM G_law_coin (hr.mono (by decide)) rfl m_law_coin kp_law_coin bd_law_coin (da_cons (do_nm (pv 0)) (da_cons do_int da_nil))) (fun _ _ => rfl)) da_nil))))) (ds_cons (ds_setLc (own := [("way", 7)]) (by decide) rfl sc_law_rows.nd rfl rfl rfl (di_any (do_tup (da_cons (do_strL [] (by decide +kernel)) (da_cons (do_strL [76] (by decide +kernel)) (da_cons (do_strL [82] (by decide +kernel)) da_nil))))) (blkOk_by (N := ["purse", "shape", "rows", "text", "pick", "spot", "at", "way", "turn"]) (sc := defScope s_law_rows) (by decide +kernel)) (fun _ _ _ _ _ => (dg_name sc_law_rows.nd rfl (.inl rfl))) (fun _ _ _ _ _ => dts_nil) (fun _ _ _ _ _ => (do_call G_law_bk_run (hr.mono (by decide)) rfl m_law_bk_run kp_law_bk_run bd_law_bk_run (da_cons (do_nm (pv 1)) (da_cons (do_nm (pv 7)) da_nil))))) (ds_cons (ds_par rfl sc_law_rows.nd rfl rfl (by decide) rfl rfl (daf_v (do_callM G_law_coin (hr.mono (by decide)) rfl m_law_coin kp_law_coin bd_law_coin (da_cons (do_nm (pv 0)) (da_cons do_int da_nil))) (daf_v (do_callM G_law_coin (hr.mono (by decide)) rfl m_law_coin kp_law_coin bd_law_coin (da_cons (do_nm (pv 0)) (da_cons do_int da_nil))) daf_nil)) rfl) (ds_cons (ds_set sc_law_rows.nd rfl (.inl rfl) (do_ix (do_nm (pv 2)) (do_nm (pv 5)) (fun _ _ => rfl))) (ds_cons (ds_if (dp_eq hr.units (do_nm (pv 4)) do_int) (ds_one (ds_ret (do_f (dfr_lc (own := [("turn", 8)]) (by decide) rfl sc_law_rows.nd (di_range1 rfl b_range (da_cons do_int da_nil)) (blkOk_by (N := ["purse", "shape", "rows", "text", "pick", "spot", "at", "way", "turn"]) (sc := defScope s_law_rows) (by decide +kernel)) (fun _ _ _ _ _ => (dg_name sc_law_rows.nd rfl (.inl rfl))) (fun _ _ _ _ _ => dts_nil) (fun _ _ _ _ _ => (do_callM G_law_bk_way (hr.mono (by decide)) rfl m_law_bk_way kp_law_bk_way bd_law_bk_way (da_cons (do_nm (pv 0)) (da_cons do_int da_nil)))))))) ds_nil) (ds_cons (ds_if (dp_eq hr.units (do_nm (pv 4)) do_int) (ds_one (ds_setIx (pv 2) (do_nm (pv 5)) (do_add (do_nm (pv 3)) (do_ix (do_strL [76, 82] (by decide +kernel)) (do_callM G_law_coin (hr.mono (by decide)) rfl m_law_coin kp_law_coin bd_law_coin (da_cons (do_nm (pv 0)) (da_cons do_int da_nil))) (fun _ _ => rfl))))) ds_nil) (ds_cons (ds_if (dp_eq hr.units (do_nm (pv 4)) do_int) (ds_one (ds_setIx (pv 2) (do_nm (pv 5)) (do_sl (do_nm (pv 3)) (dpo_some do_int) dpo_none))) ds_nil) (ds_cons (ds_if (dp_eq hr.units (do_nm (pv 4)) do_int) (ds_cons (ds_set sc_law_rows.nd rfl (.inl rfl) (do_callM G_law_coin (hr.mono (by decide)) rfl m_law_coin kp_law_coin bd_law_coin (da_cons (do_nm (pv 0)) (da_cons (do_add (do_len rfl b_len (do_nm (pv 3))) do_int) da_nil)))) (ds_one (ds_setIx (pv 2) (do_nm (pv 5)) (do_add (do_add (do_sl (do_nm (pv 3)) dpo_none (dpo_some (do_nm (pv 6)))) (do_ix (do_strL [76, 82] (by decide +kernel)) (do_callM G_law_coin (hr.mono (by decide)) rfl m_law_coin kp_law_coin bd_law_coin (da_cons (do_nm (pv 0)) (da_cons do_int da_nil))) (fun _ _ => rfl))) (do_sl (do_nm (pv 3)) (dpo_some (do_add (do_nm (pv 6)) do_int)) dpo_none))))) ds_nil) (ds_one (ds_ret (do_nm (pv 2))))))))))))
/-! _law_right -/
abbrev s_law_right : Stmt := topS 36
theorem sc_law_right : FnScope ["purse", "rows", "due", "given", "found"] ["purse"] (defScope s_law_right) := ⟨rfl, rfl, rfl, by decide +kernel, rfl, by decide +kernel, by decide +kernel⟩
def t_law_right (F_law_rows F_law_due F_machine_from : DF) : DTS := (sSeq (sSet 1 (dCallM 1 F_law_rows (dCons (dN 0) dNil))) (sSeq (sSet 2 (dCallN 1 F_law_due (dCons (dN 1) dNil))) (sSeq (sSetF 3 (fListOf (dN 1))) (sSeq (sSetN 4 2 F_machine_from (dCons (dN 3) (dCons (dC (.int 1)) dNil))) (sSeq (sIf (dOr (dB (d2 (gEqS (!·)) (dRepr (dN 4)) (dRepr (dN 2)))) (dB (d2x (gEq (!·)) (dN 3) (dN 1)))) (sRet (dC (.bool false))) sNext) (sSeq (sIf (dB (d2x (gIs (!·)) (dN 4) (dC .none))) (sDeepApp 4 1 (dC (S [109, 111, 114, 101]))) sNext) (sSeq (sSetIx 3 (dC (.int 2)) (d2 gAdd (d2 gIx (dN 3) (dC (.int 2))) (dC (S [76])))) (sSeq (sIf (dB (d2 (gEqS (!·)) (dRepr (dCallN 2 F_machine_from (dCons (dN 3) (dCons (dC (.int 1)) dNil)))) (dRepr (dCallN 1 F_law_due (dCons (dN 3) dNil))))) (sRet (dC (.bool false))) sNext) (sSeq (sSetIx 3 (dC (.int 2)) (d2 gIx (dN 1) (dC (.int 2)))) (sRet (d2 (gEqS id) (dRepr (dKw2N F_machine_from (dCons (dC (.int 1)) (dCons (dN 3) dNil)))) (dRepr (dN 2)))))))))))))
abbrev PL_law_right (F F_law_rows F_law_due F_machine_from : DF) : Prop := ∀ (ds : List PyData) (q : PyData → PyData → Prop) (a : Addr), ds.length = 1 → F ds q → (t_law_right F_law_rows F_law_due F_machine_from) (endsD true a q) (startD true a 5 ds)
theorem ok_law_right {P : Program} {w : World} {K : PySem.W.Frag} {mg : Str → Option Value} {base : Heap} {f : Addr} {fd : FuncData} {F F_law_rows F_law_due F_machine_from : DF} (Fn : FunD K "_law_right" "_law_right" (defArgs s_law_right) (defBody s_law_right) (defScope s_law_right) [] [] f fd) (k_law_rows : Know P w K mg base "_law_rows" 4 ["purse"] true 1 F_law_rows) (k_law_due : Know P w K mg base "_law_due" 1 ["rows"] false 1 F_law_due) (k_machine_from : KnowK P w K mg base "machine_from" 5 "words" "most" F_machine_from) (b_list : mg "list" = none) (b_repr : mg "repr" = none)
    (pl : PL_law_right F F_law_rows F_law_due F_machine_from) : FnG P w K mg base 6 f fd ["purse"] (spD true 1 F) := by
  obtain ⟨f_law_rows, fd_law_rows, m_law_rows, kp_law_rows, bd_law_rows, G_law_rows⟩ := k_law_rows.ex
  obtain ⟨f_law_due, fd_law_due, m_law_due, kp_law_due, bd_law_due, G_law_due⟩ := k_law_due.ex
  obtain ⟨f_machine_from, fd_machine_from, m_machine_from, kp_machine_from, bd_machine_from, G_machine_from, kb_machine_from⟩ := k_machine_from.ex
  refine okDG Fn sc_law_right rfl (fun cdv A outer s H E gd hr => ?_) pl
  unfold t_law_right
  exact (ds_cons (ds_set sc_law_right.nd rfl (.inl rfl) (do_callM G_law_rows (hr.mono (by decide)) rfl m_law_rows kp_law_rows bd_law_rows (da_cons (do_nm (pv 0)) da_nil))) (ds_cons (ds_set sc_law_right.nd rfl (.inl rfl) (do_callN G_law_due (hr.mono (by decide)) rfl m_law_due kp_law_due bd_law_due (da_cons (do_nm (pv 1)) da_nil))) (ds_cons (ds_setF sc_law_right.nd rfl (.inl rfl) (dfr_listOf rfl b_list (do_nm (pv 1)))) (ds_cons (ds_setN G_machine_from (hr.mono (by decide)) rfl m_machine_from kp_machine_from bd_machine_from (da_cons (do_nm (pv 3)) (da_cons do_int da_nil)) sc_law_right.nd rfl (.inl rfl)) (ds_cons (ds_if (dp_w (dw_or (dp_neS (do_repr gd hr.units rfl b_repr (do_nm (pv 4))) (do_repr gd hr.units rfl b_repr (do_nm (pv 2)))) (dw_or1 (dp_ne hr.units (do_nm (pv 3)) (do_nm (pv 1)))))) (ds_one (ds_ret do_bl)) ds_nil) (ds_cons (ds_if (dp_isnot (do_nm (pv 4)) do_non) (ds_one (ds_deepApp (pv 4) (do_strL [109, 111, 114, 101] (by decide +kernel)))) ds_nil) (ds_cons (ds_setIx (pv 3) do_int (do_add (do_ix (do_nm (pv 3)) do_int (fun _ _ => rfl)) (do_strL [76] (by decide +kernel)))) (ds_cons (ds_if (dp_neS (do_repr gd hr.units rfl b_repr (do_callN G_machine_from (hr.mono (by decide)) rfl m_machine_from kp_machine_from bd_machine_from (da_cons (do_nm (pv 3)) (da_cons do_int da_nil)))) (do_repr gd hr.units rfl b_repr (do_callN G_law_due (hr.mono (by decide)) rfl m_law_due kp_law_due bd_law_due (da_cons (do_nm (pv 3)) da_nil)))) (ds_one (ds_ret do_bl)) ds_nil) (ds_cons (ds_setIx (pv 3) do_int (do_ix (do_nm (pv 1)) do_int (fun _ _ => rfl))) (ds_one (ds_ret (do_eqS (do_repr gd hr.units rfl b_repr (do_kw2N G_machine_from (hr.mono (by decide)) rfl m_machine_from kp_machine_from kb_machine_from (dk_cons do_int (dk_cons (do_nm (pv 3)) dk_nil)))) (do_repr gd hr.units rfl b_repr (do_nm (pv 2)))))))))))))))
abbrev s_law_purse : Stmt := topS 28
abbrev s_law : Stmt := topS 37
abbrev lawC : Int := 6
theorem sc_law_purse : FnScope ["script", "place", "cell"] ["script", "place"] (defScope s_law_purse) := ⟨rfl, rfl, rfl, by decide +kernel, rfl, by decide +kernel, by decide +kernel⟩
theorem sc_law : FnScope ["script", "spot"] ["script"] (defScope s_law) := ⟨rfl, rfl, rfl, by decide +kernel, rfl, by decide +kernel, by decide +kernel⟩
def spPurse (K : PySem.W.Frag) : Sp := fun vs H Q _ => ∃ (a : Addr) (ns : List Int) (i : Nat), vs = [.ref a, .int i] ∧ SqL K H a (ns.map V.int) ∧ i < 1000 ∧
  ∀ (g s : Int) (p : Addr), 0 ≤ g → 0 ≤ s → s < 1000000000000000000000007 → H p = none → Q (.ref p) (upd H p (.lst [.int g, .int s, .int 0]))
section
variable {P : Program} {w : World} {K : PySem.W.Frag} {mg : Str → Option Value} {base : Heap} {f : Addr} {fd : FuncData}
theorem ok_law_purse (Fn : FunD K "_law_purse" "_law_purse" (defArgs s_law_purse) (defBody s_law_purse) (defScope s_law_purse) [] [] f fd) (b_len : mg "len" = none) (b_max : mg "max" = none) (b_abs : mg "abs" = none) (b_int : mg "int" = none) :
    FnOk P w K mg base CX0 1 f fd ["script", "place"] (spPurse K) := by
  refine Fn.ok sc_law_purse (fun vs H Q E h => ?_) (fun cdv A outer s H vs Q E hr h => ⟨_, PSs.nox (pss_cons (ps_set (i := 2) sc_law_purse.nd rfl (.inl rfl) (pe_ifExp (pt_cmpR op_lt (pv 1) (pe_callB call_len rfl b_len boot_len (pa_cons (pv 0) pa_nil)) (nomark _)) (pe_ix ix_seq (pv 0) (pv 1) (fun _ _ => rfl)) pe_int))
    (pss_one (ps_ret (pe_lst (pa_cons (pe_callB (call_max2 rfl) rfl b_max (by decide +kernel) (pa_cons pe_int (pa_cons (pe_op op_sub (pe_callB call_abs rfl b_abs (by decide +kernel) (pa_cons (pv 2) pa_nil)) (pe_op op_powW pe_int pe_int)) pa_nil)))
      (pa_cons (pe_op op_mod (pe_callTy call_int1 rfl b_int boot_int (pa_cons (pe_op op_add (pe_op op_add (pe_op op_mulA (pv 2) pe_int) (pe_op op_mulA (pv 1) pe_int)) pe_int) pa_nil)) (pe_op op_add (pe_op op_powW pe_int pe_int) pe_int)) (pa_cons pe_int pa_nil))))))), ?_⟩)
  · obtain ⟨a, ns, i, rfl, _⟩ := h
    rfl
  · obtain ⟨a, ns, i, rfl, hS, hi, hQ⟩ := h
    generalize hB : tRet _ = B
    have rest : ∀ c : Int, B { nx := fun _ H' => Q V.non H', rt := Q } [some (.ref a), some (.int i), some (.int c)] H := by
      intro c
      subst hB
      refine ⟨.int c, rfl, c, rfl, 10, 18, rfl, rfl, ⟨by decide, by decide +kernel⟩, _, _, rfl, rfl, 0, _, rfl, .int c, rfl, c, 30011, rfl, rfl, .inr (.inl (by decide)), .int i, rfl, i, 7368787, rfl, rfl, .inr (.inl (by decide)), _, _, rfl, rfl, _, 104729, rfl, rfl, .inl ⟨_, rfl, 10, 24, rfl, rfl, ⟨by decide, by decide +kernel⟩, _, 7, rfl, rfl, _, _, rfl, rfl, (show (0 : Int) < 10 ^ (24 : Int).toNat + 7 from by decide), by show 3 ≤ sizeLine; decide, fun p hp => ?_⟩⟩
      refine hQ _ _ p ?_ (Int.emod_nonneg _ (by decide)) ?_ hp
      · split <;> omega
      · exact Int.emod_lt_of_pos _ (by decide)
    refine ⟨.int i, rfl, .ref a, rfl, .ref a, ns.length, rfl, .inl ⟨_, hS, by rw [List.length_map]⟩, (i : Int), (ns.length : Int), rfl, rfl, _, rfl, ?_⟩
    dsimp only
    by_cases lt : i < ns.length
    · rw [if_pos (decide_eq_true (by omega))]
      exact ⟨.ref a, rfl, .int i, rfl, .inl ⟨a, _, (i : Nat), .int ns[i], rfl, rfl, hS, atI_nat (by simp [lt]), rest _⟩⟩
    · rw [if_neg (by simpa using lt)]
      exact rest 0
def spLaw (K : PySem.W.Frag) : Sp := fun vs H Q _ => ∃ (a : Addr) (ns : List Int), vs = [.ref a] ∧ SqL K H a (ns.map V.int) ∧ ns.length ≤ 63 ∧ ∀ H', Q (.bl true) H'
theorem ok_law {k : Nat} {F : DF} (Fn : FunD K "law" "law" (defArgs s_law) (defBody s_law) (defScope s_law) [] [] f fd) (b_len : mg "len" = none) (b_max : mg "max" = none) (b_min : mg "min" = none) (b_range : mg "range" = none)
    {fP : Addr} {fdP : FuncData} (mP : mg "_law_purse" = some (.ref fP)) (kP : PySem.W.keepIn K (.ref fP) = true) (bP : L2.Binds K fdP ["script", "place"] []) (GP : FnOk P w K mg base CX0 1 fP fdP ["script", "place"] (spPurse K))
    (right : KnowG P w K mg base "_law_right" (k + 1) ["purse"] true 1 F) (hF : ∀ (g s : Int) (q : PyData → PyData → Prop), 0 ≤ g → 0 ≤ s → s < 1000000000000000000000007 → (∀ e, q (.bool true) e) → F [.list [.int g, .int s, .int 0]] q) :
    FnG P w K mg base (k + 2) f fd ["script"] (spLaw K) := by
  obtain ⟨fR, fdR, mR, kR, bR, GR⟩ := right.ex
  refine fnG_of Fn sc_law (fun vs H Q E h => ?_) (fun cdv A outer s H vs Q E gd hr h => ⟨_, PSs.nox (pss_cons (ps_for .never rfl (pi_range1 rfl b_range (pa_cons (pe_callB (call_max2 rfl) rfl b_max (by decide +kernel) (pa_cons pe_int (pa_cons (pe_callB (call_min2 rfl) rfl b_min (by decide +kernel) (pa_cons pe_int (pa_cons (pe_callB call_len rfl b_len boot_len (pa_cons (pv 0) pa_nil)) pa_nil))) pa_nil))) pa_nil))
    (pg_name (i := 1) sc_law.nd rfl (.inl rfl)) (pss_one (ps_if (pt_not (pt_val (pe_callG GR gd hr rfl mR kR bR (pa_cons (pe_call GP (hr.mono (by omega)) rfl mP kP bP .nil pass0 (pa_cons (pv 0) (pa_cons (pv 1) pa_nil))) pa_nil) (by decide) rfl rfl))) (pss_one (ps_ret pe_bl)) pss_nil))) (pss_one (ps_ret pe_bl))), ?_⟩)
  · obtain ⟨a, ns, rfl, _⟩ := h
    rfl
  · obtain ⟨a, ns, rfl, hS, hl, hQ⟩ := h
    refine ⟨.ref a, rfl, .ref a, ns.length, rfl, .inl ⟨_, hS, by rw [List.length_map]⟩, _, _, rfl, _, _, rfl, _, rfl, ?_, ?_, for_range (fun _ σ H' => σ[0]? = some (some (.ref a)) ∧ σ.length = 2 ∧ SqL K H' a (ns.map V.int)) ⟨rfl, rfl, hS⟩ (fun i σ H' hi z => ?_) fun σ H' _ => hQ _⟩
    · show -(2 ^ 62 : Int) ≤ _
      split <;> split <;> omega
    · show _ < (2 ^ 62 : Int)
      split <;> split <;> omega
    · obtain ⟨h0, h2, hS'⟩ := z
      have hi' : i < 63 := by
        revert hi
        split <;> split <;> omega
      obtain ⟨x0, x1, rfl⟩ : ∃ x0 x1, σ = [x0, x1] := by
        match σ, h2 with
        | [x0, x1], _ => exact ⟨x0, x1, rfl⟩
      obtain rfl : x0 = some (.ref a) := Option.some.inj h0
      refine ⟨.ref a, rfl, .int (0 + (i : Int)), rfl, a, ns, i, by simp, hS', by omega, fun g s p hg hs hs2 hp => ?_⟩
      have keep : ∀ H2 : Hp, (∀ b o, upd H' p (.lst [.int g, .int s, .int 0]) b = some o → b ≠ p → H2 b = some o) → SqL K H2 a (ns.map V.int) := fun H2 h => by
        rcases hS' with (z | ⟨o, z⟩) | z
        · have ne1 : a ≠ p := fun q => by rw [q, hp] at z; cases z
          exact .inl (.inl (h a _ (by rw [upd_ne ne1]; exact z) ne1))
        · have ne1 : a ≠ p := fun q => by rw [q, hp] at z; cases z
          exact .inl (.inr ⟨o, h a _ (by rw [upd_ne ne1]; exact z) ne1⟩)
        · exact .inr z
      refine ⟨rfl, (· = p), [.list [.int g, .int s, .int 0]], fun d _ => d = .bool true, fun b hb => (by cases (show b = p from hb); exact ⟨_, upd_same, rfl⟩), hF g s _ hg hs hs2 fun _ => rfl, ?_⟩
      rw [if_pos rfl]
      refine ⟨p, [], .list [.int g, .int s, .int 0], [], rfl, rfl, rfl, ⟨_, upd_same, .lst (.cons (.int _) (.cons (.int _) (.cons (.int _) .nil)))⟩, .nil, fun d e v H2 hq hk ht hv => ?_⟩
      subst hq
      refine ⟨true, hv.bl', ?_⟩
      exact ⟨rfl, rfl, keep H2 hk⟩
end

end DL
namespace DL
open PySem PySem.Spec PyProof.Rows L2
def F_has_turns_alone : DF := fun ds q => ∃ w : List Bool, ds = [Wd w] ∧ w.length ≤ 16777216 ∧ q (.bool true) .none
theorem bools_true : ∀ (n : Nat), boolsOf (List.replicate n (.bool true)) = some (List.replicate n true)
  | 0 => rfl
  | n + 1 => by simp only [List.replicate_succ, boolsOf, bools_true n, Option.map_some]
theorem mem_enc {c : Nat} {w : List Bool} (h : c ∈ enc w) : c ∈ [76, 82] := by
  obtain ⟨b, _, rfl⟩ := List.mem_map.mp h
  cases b <;> decide
theorem pl_has_turns_alone : PL_has_turns_alone F_has_turns_alone := by
  intro ds q a _ h
  obtain ⟨w, rfl, hl, hq⟩ := h
  refine ⟨_, rfl, rfl, lcGo_map (fun _ => .bool true) rfl _ _ _ (fun d hd Q1 Q2 k => ?_) ?_ ?_⟩
  · obtain ⟨c, hc, rfl⟩ := List.mem_map.mp hd
    refine ⟨c, rfl, ?_⟩
    show Q1 (.bool (decide (c ∈ [76, 82]))) _
    rw [decide_eq_true (mem_enc hc)]
    exact k _ rfl
  · rw [List.length_map]
    show 0 + (enc w).length ≤ _
    rw [enc_len]; omega
  · refine ⟨List.replicate w.length true, ?_, ?_⟩
    · rw [← bools_true, List.nil_append, List.map_map]
      congr 1
      show (L (mk (enc w))).map (fun _ => PyData.bool true) = _
      rw [List.map_const', L_mk, enc_len]
    · show q (.bool ((List.replicate w.length true).all id)) .none
      have : (List.replicate w.length true).all id = true := by
        rw [List.all_eq_true]
        intro b hb
        rw [(List.mem_replicate.mp hb).2]; rfl
      rw [this]
      exact hq
def F_check_road : DF := fun ds q => ∃ w : List Bool, ds = [Wd w] ∧ w.length ≤ 16777216 ∧ q .none .none
theorem pl_check_road : PL_check_road F_check_road F_has_turns_alone := by
  intro ds q a _ h
  obtain ⟨w, rfl, hl, hq⟩ := h
  exact ⟨rfl, w, rfl, hl, .inl rfl, hq⟩
def F_check_number : DF := fun ds q => ∃ n m : Int, ds = [.int n, .int m] ∧ m ≤ n ∧ q .none .none
theorem pl_check_number : PL_check_number F_check_number := by
  intro ds q a _ h
  obtain ⟨n, m, rfl, hl, hq⟩ := h
  refine ⟨trivial, ?_⟩
  show if decide (n < m) = true then _ else _
  rw [if_neg (by simpa using hl)]
  exact hq
/-- a machine: the beginning, the rows -/
abbrev Move := List Bool × Nat
abbrev Row := Move × Move × List Bool
def mvD (m : Move) : PyData := .tuple [Wd m.1, .int m.2]
def rowD (r : Row) : PyData := .tuple [mvD r.1, mvD r.2.1, Wd r.2.2]
def macD (f : List Bool) (rows : List Row) : PyData := .tuple [Wd f, .list (rows.map rowD)]
def mvOk (n : Nat) (m : Move) : Prop := m.1.length ≤ 16777216 ∧ m.2 < n
def rowOk (n : Nat) (r : Row) : Prop := mvOk n r.1 ∧ mvOk n r.2.1 ∧ r.2.2.length ≤ 16777216
def macOk (f : List Bool) (rows : List Row) : Prop := f.length ≤ 16777216 ∧ 0 < rows.length ∧ ∀ r ∈ rows, rowOk rows.length r
def F_is_move : DF := fun ds q => ∃ (m : Move) (n : Nat), ds = [mvD m, .int n] ∧ mvOk n m ∧ q (.bool true) .none
theorem pl_is_move : PL_is_move F_is_move F_has_turns_alone := by
  intro ds q a _ h
  obtain ⟨m, n, rfl, ⟨h1, h2⟩, hq⟩ := h
  refine ⟨rfl, rfl, rfl, m.1, rfl, h1, .inl rfl, trivial, ?_⟩
  show (match PyData.bool (decide ((0 : Int) ≤ (m.2 : Nat))) with | .bool b => if b = true then _ else _ | _ => False)
  rw [decide_eq_true (p := (0 : Int) ≤ (m.2 : Nat)) (by omega)]
  refine ⟨trivial, ?_⟩
  show q (.bool (decide (((m.2 : Nat) : Int) < n))) .none
  rw [decide_eq_true (by omega)]
  exact hq
def F_check_machine : DF := fun ds q => ∃ f rows, ds = [macD f rows] ∧ macOk f rows ∧ q .none .none
theorem pl_check_machine : PL_check_machine F_check_machine F_has_turns_alone F_is_move := by
  intro ds q a _ h
  obtain ⟨f, rows, rfl, ⟨h1, h2, h3⟩, hq⟩ := h
  refine ⟨rfl, rfl, rfl, rfl, ?_⟩
  have e : PyData.eqv (.int ((rows.map rowD).length : Nat)) (.int 0) = false := by
    rw [eqv_int, List.length_map]
    exact decide_eq_false (by omega)
  rw [e]
  refine ⟨rfl, f, rfl, h1, .inl rfl, ?_⟩
  refine ⟨_, rfl, ?_⟩
  refine forGo_inv (fun r ρ => (∃ rs : List Row, r = rs.map rowD ∧ ∀ x ∈ rs, rowOk rows.length x) ∧ ∃ x1 x2 x3, ρ = [some (.val (macD f rows)), some (.val (.int (rows.length : Nat))), some (.val (Wd f)), some (.val (.list (rows.map rowD))), x1, x2, x3]) (fun ρ _ => hq) (fun d r ρ N hN hI => ?_) _ _ ⟨⟨rows, rfl, h3⟩, none, none, none, ?_⟩
  · obtain ⟨⟨rs, e, ok⟩, x1, x2, x3, rfl⟩ := hI
    cases rs with
    | nil => cases e
    | cons x rs =>
      cases e
      obtain ⟨o1, o2, o3⟩ := ok x (List.mem_cons_self ..)
      refine ⟨rfl, rfl, rfl, x.1, rows.length, rfl, o1, .inl rfl, rfl, x.2.1, rows.length, rfl, o2, .inl rfl, rfl, x.2.2, rfl, o3, .inl rfl, ?_⟩
      exact hN _ ⟨⟨rs, rfl, fun y hy => ok y (List.mem_cons_of_mem _ hy)⟩, _, _, _, rfl⟩
  · simp only [List.length_map]
    rfl
end DL
namespace DL
open PySem PySem.Spec PyProof.Rows L2
def mvOf (r : Row) (t : Bool) : Move := if t then r.2.1 else r.1
def F_move_of : DF := fun ds q => ∃ (rows : List Row) (s : Nat) (r : Row) (t : Bool), ds = [.list (rows.map rowD), .int s, S [sg t]] ∧ rows[s]? = some r ∧ q (mvD (mvOf r t)) .none
theorem at_row {rows : List Row} {s : Nat} {r : Row} (h : rows[s]? = some r) : atI (rows.map rowD) (s : Int) = some (rowD r) := atI_nat (by rw [List.getElem?_map, h]; rfl)
theorem sg_eq (t : Bool) : PyData.eqv (S [sg t]) (S [76]) = !t := by
  cases t <;> decide
theorem pl_move_of : PL_move_of F_move_of := by
  intro ds q a _ h
  obtain ⟨rows, s, r, t, rfl, hr, hq⟩ := h
  refine ⟨_, at_row hr, ⟨shaped_sg t, shaped_sg false, ?_⟩⟩
  rw [sg_eq]
  cases t with
  | true => exact ⟨mvD r.2.1, rfl, hq⟩
  | false => exact ⟨mvD r.1, rfl, hq⟩
/-- what is written along a road, and where one ends -/
def walk (rows : List Row) : Nat → List Bool → List Bool × Nat
  | s, [] => ([], s)
  | s, t :: w => match rows[s]? with
    | some r => let m := mvOf r t; let x := walk rows m.2 w; (m.1 ++ x.1, x.2)
    | none => ([], s)
def walkL (rows : List Row) : Nat → List Bool → List (List Bool)
  | _, [] => []
  | s, t :: w => match rows[s]? with
    | some r => (mvOf r t).1 :: walkL rows (mvOf r t).2 w
    | none => []
theorem walk_flat (rows : List Row) : ∀ (w : List Bool) (s : Nat), (walkL rows s w).flatten = (walk rows s w).1
  | [], s => rfl
  | t :: w, s => by
    unfold walkL walk
    cases h : rows[s]? with
    | none => rfl
    | some r =>
      simp only [List.flatten_cons, walk_flat rows w]
theorem mv_ok {rows : List Row} {n s : Nat} {r : Row} (h : ∀ x ∈ rows, rowOk n x) (hr : rows[s]? = some r) (t : Bool) : mvOk n (mvOf r t) := by
  obtain ⟨h1, h2, _⟩ := h r (List.mem_of_getElem? hr)
  cases t
  · exact h1
  · exact h2
theorem walk_lt {rows : List Row} (h : ∀ x ∈ rows, rowOk rows.length x) : ∀ (w : List Bool) (s : Nat), s < rows.length → (walk rows s w).2 < rows.length
  | [], s, hs => hs
  | t :: w, s, hs => by
    unfold walk
    obtain ⟨r, hr⟩ : ∃ r, rows[s]? = some r := ⟨_, List.getElem?_eq_getElem hs⟩
    rw [hr]
    exact walk_lt h w _ (mv_ok h hr t).2
def F_walked_on : DF := fun ds q => ∃ (rows : List Row) (s : Nat) (w : List Bool), ds = [.list (rows.map rowD), .int s, Wd w] ∧ (∀ x ∈ rows, rowOk rows.length x) ∧ s < rows.length ∧ w.length ≤ 16777216 ∧ (walk rows s w).1.length ≤ 16777216 ∧
  q (.tuple [Wd (walk rows s w).1, .int (walk rows s w).2]) .none
theorem strs_of : ∀ (ws : List (List Bool)), strsOf (ws.map Wd) = some (ws.map fun w => mk (enc w))
  | [] => rfl
  | w :: ws => by simp only [List.map_cons, strsOf, strs_of ws, Option.map_some]
theorem sum_len : ∀ (ws : List (List Bool)), ((ws.map fun w => mk (enc w)).map (·.length)).sum = ws.flatten.length
  | [] => rfl
  | w :: ws => by
    simp only [List.map_cons, List.sum_cons, sum_len ws, List.flatten_cons, List.length_append]
    congr 1
    rw [← L_len, L_mk, enc_len]
theorem pl_walked_on : PL_walked_on F_walked_on F_move_of := by
  intro ds q a _ h
  obtain ⟨rows, s, w, rfl, ok, hs, hw, ht, hq⟩ := h
  refine ⟨Nat.zero_le _, fun p => ⟨_, rfl, ?_⟩⟩
  refine forGo_inv (fun r ρ => ∃ (w1 w2 : List Bool) (s2 : Nat) (ds : List (List Bool)) (x4 x5 : Option Cell), w2.length ≤ w.length ∧ ds.length + w2.length = w.length ∧ r = w2.map (fun b => S [sg b]) ∧ s2 < rows.length ∧ ds ++ walkL rows s2 w2 = walkL rows s w ∧ (walk rows s2 w2).2 = (walk rows s w).2 ∧
    ρ = [some (.val (.list (rows.map rowD))), some (.val (.int s2)), some (.val (Wd w)), some (.own p (.list (ds.map Wd))), x4, x5]) (fun ρ hI => ?_) (fun d r ρ N hN hI => ?_) _ _ ?_
  · obtain ⟨w1, w2, s2, ds, x4, x5, l1, l2, e, l3, e2, e3, rfl⟩ := hI
    have w0 : w2 = [] := by
      cases w2 with
      | nil => rfl
      | cons b w2 => cases e
    subst w0
    simp only [walkL, List.append_nil] at e2
    refine ⟨_, strs_of _, ?_, ?_⟩
    · rw [sum_len, e2, walk_flat]
      show _ + _ * 0 ≤ _
      omega
    · refine ⟨Nat.le_of_ble_eq_true rfl, ?_⟩
      rw [join_none, e2, walk_flat, show s2 = (walk rows s w).2 from e3]
      exact hq
  · obtain ⟨w1, w2, s2, ds, x4, x5, l1, l2, e, l3, e2, e3, rfl⟩ := hI
    cases w2 with
    | nil => cases e
    | cons b w2 =>
      cases e
      obtain ⟨r, hr⟩ : ∃ r, rows[s2]? = some r := ⟨_, List.getElem?_eq_getElem l3⟩
      refine ⟨rfl, rows, s2, r, b, rfl, hr, .inr rfl, rfl, rfl, ?_, ?_⟩
      · rw [List.length_map]
        have := l2
        rw [List.length_cons] at this
        omega
      · refine hN _ ⟨w1, w2, (mvOf r b).2, ds ++ [(mvOf r b).1], some (.val (S [sg b])), some (.val (Wd (mvOf r b).1)), ?_, ?_, rfl, (mv_ok ok hr b).2, ?_, ?_, ?_⟩
        · rw [List.length_cons] at l1; omega
        · rw [List.length_cons] at l2; rw [List.length_append, List.length_singleton]; omega
        · rw [← e2, List.append_assoc]
          congr 1
          conv => rhs; unfold walkL
          rw [hr]
          rfl
        · rw [← e3]
          conv => rhs; unfold walk
          rw [hr]
        · rw [List.map_append]
          rfl
  · refine ⟨[], w, s, [], none, none, Nat.le_refl _, Nat.zero_add _, ?_, hs, rfl, rfl, rfl⟩
    show (L (mk (enc w))).map _ = _
    rw [L_mk, enc, List.map_map]
    rfl
end DL
namespace DL
open PySem PySem.Spec PyProof.Rows L2
/-- what a machine writes for a road -/
def runM (f : List Bool) (rows : List Row) (w : List Bool) : List Bool := f ++ (walk rows 0 w).1 ++ ((rows[(walk rows 0 w).2]?).map (·.2.2)).getD []
def F_run : DF := fun ds q => ∃ (f : List Bool) (rows : List Row) (w : List Bool), ds = [macD f rows, Wd w] ∧ macOk f rows ∧ w.length ≤ 16777216 ∧ (runM f rows w).length ≤ 16777216 ∧ q (Wd (runM f rows w)) .none
theorem pl_run : PL_run F_run F_check_machine F_check_road F_walked_on := by
  intro ds q a _ h
  obtain ⟨f, rows, w, rfl, ok, hw, hl, hq⟩ := h
  have hs := walk_lt ok.2.2 w 0 ok.2.1
  obtain ⟨r, hr⟩ : ∃ r, rows[(walk rows 0 w).2]? = some r := ⟨_, List.getElem?_eq_getElem hs⟩
  have e : runM f rows w = f ++ (walk rows 0 w).1 ++ r.2.2 := by unfold runM; rw [hr]; rfl
  rw [e] at hl hq
  simp only [List.length_append] at hl
  refine ⟨rfl, f, rows, rfl, ok, .inl rfl, rfl, w, rfl, hw, .inl rfl, rfl, rfl, rfl, rows, 0, w, rfl, ok.2.2, ok.2.1, hw, by omega, .inl rfl, rfl, rfl, ?_⟩
  refine ⟨?_, _, at_row hr, Wd r.2.2, rfl, ?_, ?_⟩
  · show (enc _).length + (enc _).length ≤ _
    rw [enc_len, enc_len]; omega
  · show (enc _ ++ enc _).length + (enc _).length ≤ _
    rw [List.length_append, enc_len, enc_len, enc_len]; omega
  · show q (S (enc _ ++ enc _ ++ enc _)) .none
    rw [← enc_app, ← enc_app]
    exact hq
/-- how long two roads are alike -/
def lcp : List Bool → List Bool → Nat
  | x :: a, y :: b => if x = y then lcp a b + 1 else 0
  | _, _ => 0
theorem lcp_le : ∀ (a b : List Bool), lcp a b ≤ a.length ∧ lcp a b ≤ b.length
  | [], b => by cases b <;> exact ⟨Nat.zero_le _, Nat.zero_le _⟩
  | x :: a, [] => ⟨Nat.zero_le _, Nat.zero_le _⟩
  | x :: a, y :: b => by
    unfold lcp
    have ih := lcp_le a b
    split
    · simp only [List.length_cons]; omega
    · exact ⟨Nat.zero_le _, Nat.zero_le _⟩
theorem lcp_at : ∀ (a b : List Bool) (i : Nat), i < lcp a b → ∃ c, a[i]? = some c ∧ b[i]? = some c
  | [], b, i, h => by cases b <;> simp [lcp] at h
  | x :: a, [], i, h => by simp [lcp] at h
  | x :: a, y :: b, i, h => by
    unfold lcp at h
    split at h
    · rename_i e
      subst e
      cases i with
      | zero => exact ⟨x, rfl, rfl⟩
      | succ i => exact lcp_at a b i (by omega)
    · omega
theorem lcp_end : ∀ (a b : List Bool) {c d : Bool}, a[lcp a b]? = some c → b[lcp a b]? = some d → c ≠ d
  | [], b, c, d, h, _ => by simp at h
  | x :: a, [], c, d, _, h => by simp at h
  | x :: a, y :: b, c, d, h, h' => by
    unfold lcp at h h'
    split at h
    · rename_i e
      rw [if_pos e] at h'
      exact lcp_end a b (by simpa using h) (by simpa using h')
    · rename_i e
      rw [if_neg e] at h'
      simp at h h'
      subst h h'
      exact e
def restA (a b : List Bool) : List Bool := a.drop (lcp a b)
def restB (a b : List Bool) : List Bool := b.drop (lcp a b)
def F_rests : DF := fun ds q => ∃ a b : List Bool, ds = [.tuple [Wd a, Wd b]] ∧ a.length ≤ 16777216 ∧ b.length ≤ 16777216 ∧ q (.tuple [Wd (restA a b), Wd (restB a b)]) .none
theorem pl_rests : PL_rests F_rests := by
  intro ds q _ _ h
  obtain ⟨a, b, rfl, ha, hb, hq⟩ := h
  have la := (lcp_le a b).1
  have lb := (lcp_le a b).2
  refine ⟨rfl, rfl, while_of (fun m ρ => ∃ k : Nat, k ≤ lcp a b ∧ m = a.length - k ∧ ρ = [some (.val (.tuple [Wd a, Wd b])), some (.val (.int k)), some (.val (Wd a)), some (.val (Wd b))]) ⟨a.length, 0, Nat.zero_le _, rfl, rfl⟩ ?_⟩
  rintro m ρ ⟨k, hk, rfl, rfl⟩
  refine ⟨decide (k < lcp a b), fun K hK => ?_, fun hc N hN => ?_, fun hc => ?_⟩
  · refine ⟨by show (enc a).length ≤ _; rw [enc_len]; exact ha, by show (enc b).length ≤ _; rw [enc_len]; exact hb, trivial, trivial, ?_⟩
    have e1 : decide ((k : Int) < (if ((L (mk (enc b))).length : Int) < ((L (mk (enc a))).length : Int) then ((L (mk (enc b))).length : Int) else ((L (mk (enc a))).length : Int))) = decide (k < a.length ∧ k < b.length) := by
      rw [L_mk, L_mk, enc_len, enc_len]
      refine decide_eq_decide.mpr ?_
      split <;> omega
    show (if decide ((k : Int) < (if ((L (mk (enc b))).length : Int) < ((L (mk (enc a))).length : Int) then ((L (mk (enc b))).length : Int) else ((L (mk (enc a))).length : Int))) = true then _ else _)
    rw [e1]
    by_cases lt : k < a.length ∧ k < b.length
    · rw [if_pos (decide_eq_true lt)]
      obtain ⟨x, hx⟩ : ∃ x, a[k]? = some x := ⟨_, List.getElem?_eq_getElem lt.1⟩
      obtain ⟨y, hy⟩ : ∃ y, b[k]? = some y := ⟨_, List.getElem?_eq_getElem lt.2⟩
      refine ⟨by show (enc a).length ≤ _; rw [enc_len]; exact ha, sg x, at_enc hx, by show (enc b).length ≤ _; rw [enc_len]; exact hb, sg y, at_enc hy, shaped_sg x, shaped_sg y, ?_⟩
      have e2 : id (PyData.eqv (S [sg x]) (S [sg y])) = decide (k < lcp a b) := by
        show PyData.eqv (Wd [x]) (Wd [y]) = _
        rw [eqv_Wd]
        refine decide_eq_decide.mpr ⟨fun h => ?_, fun h => ?_⟩
        · simp only [List.cons.injEq, and_true] at h
          refine Nat.lt_of_le_of_ne hk fun e => ?_
          rw [e] at hx hy
          exact lcp_end a b hx hy h
        · obtain ⟨c, h1, h2⟩ := lcp_at a b k h
          rw [hx] at h1
          rw [hy] at h2
          cases h1
          cases h2
          rfl
      rw [e2]
      exact hK
    · rw [if_neg (by simpa using lt)]
      have e3 : decide (k < lcp a b) = false := decide_eq_false fun h => lt ⟨by omega, by omega⟩
      rw [e3] at hK
      exact hK
  · have lt : k < lcp a b := of_decide_eq_true hc
    exact hN _ (a.length - (k + 1)) (by omega) ⟨k + 1, lt, rfl, rfl⟩
  · have e : k = lcp a b := by have := of_decide_eq_false hc; omega
    subst e
    refine ⟨by show (enc a).length ≤ _; rw [enc_len]; exact ha, by show (enc b).length ≤ _; rw [enc_len]; exact hb, Nat.le_of_ble_eq_true rfl, ?_⟩
    have e1 : S (cutD (L (mk (enc a))) (some ((lcp a b : Nat) : Int)) none) = Wd (restA a b) := by
      rw [L_mk, cut_enc, cut_from]; rfl
    have e2 : S (cutD (L (mk (enc b))) (some ((lcp a b : Nat) : Int)) none) = Wd (restB a b) := by
      rw [L_mk, cut_enc, cut_from]; rfl
    show q (.tuple [S (cutD (L (mk (enc a))) (some ((lcp a b : Nat) : Int)) none), S (cutD (L (mk (enc b))) (some ((lcp a b : Nat) : Int)) none)]) .none
    rw [e1, e2]
    exact hq
end DL
namespace DL
open PySem PySem.Spec PyProof.Rows L2
/-! ### all roads in their order -/
def nth : Nat → List Bool
  | 0 => []
  | i + 1 => nth (i / 2) ++ [decide (i % 2 = 1)]
decreasing_by omega
theorem nth0 : nth 0 = [] := by rw [nth]
theorem nth1 (i : Nat) : nth (2 * i + 1) = nth i ++ [false] := by
  rw [nth, show 2 * i / 2 = i by omega, decide_eq_false (show ¬ 2 * i % 2 = 1 by omega)]
theorem nth2 (i : Nat) : nth (2 * i + 2) = nth i ++ [true] := by
  rw [nth, show (2 * i + 1) / 2 = i by omega, decide_eq_true (show (2 * i + 1) % 2 = 1 by omega)]
theorem nth_len : ∀ (n i : Nat), 2 ^ n ≤ i + 1 → i + 1 < 2 ^ (n + 1) → (nth i).length = n
  | 0, i, h1, h2 => by
    obtain rfl : i = 0 := by omega
    rw [nth0]; rfl
  | n + 1, i, h1, h2 => by
    have e1 : 2 ^ (n + 1) = 2 * 2 ^ n := by rw [Nat.pow_succ]; omega
    have e2 : 2 ^ (n + 1 + 1) = 2 * 2 ^ (n + 1) := by rw [Nat.pow_succ]; omega
    have hp : 0 < 2 ^ n := Nat.pow_pos (by decide)
    obtain ⟨j, hj⟩ : ∃ j, i = 2 * j + 1 ∨ i = 2 * j + 2 := ⟨(i - 1) / 2, by omega⟩
    have ih := nth_len n j (by omega) (by omega)
    rcases hj with rfl | rfl
    · rw [nth1, List.length_append, ih]; rfl
    · rw [nth2, List.length_append, ih]; rfl
theorem nth_short (n i : Nat) (h : i + 1 < 2 ^ n) : (nth i).length < n := by
  induction n generalizing i with
  | zero => simp at h
  | succ n ih =>
    by_cases lt : i + 1 < 2 ^ n
    · exact Nat.lt_succ_of_lt (ih i lt)
    · rw [nth_len n i (by omega) h]; omega
def roadsTo (n : Nat) : List (List Bool) := (List.range (2 ^ (n + 1) - 1)).map nth
def F_roads_to : DF := fun ds q => ∃ n : Nat, ds = [.int n] ∧ n ≤ 20 ∧ q (.list ((roadsTo n).map Wd)) .none
theorem pl_roads_to : PL_roads_to F_roads_to := by
  intro ds q _ _ h
  obtain ⟨n, rfl, hn, hq⟩ := h
  have hp : 0 < 2 ^ n := Nat.pow_pos (by decide)
  have h20 : 2 ^ n ≤ 2 ^ 20 := Nat.pow_le_pow_right (by decide) hn
  refine ⟨Nat.le_of_ble_eq_true rfl, fun p => ?_⟩
  refine while_of (fun m ρ => ∃ at_ : Nat, at_ + 1 ≤ 2 ^ n ∧ m = 2 ^ n - at_ ∧ ρ = [some (.val (.int n)), some (.own p (.list ((List.range (2 * at_ + 1)).map fun i => Wd (nth i)))), some (.val (.int at_))]) ⟨2 ^ n, 0, by omega, rfl, ?_⟩ ?_
  · show ([some (.val (.int n)), some (.own p (.list [Wd []])), some (.val (.int 0))] : DEnv) = [some (.val (.int n)), some (.own p (.list [Wd (nth 0)])), some (.val (.int 0))]
    rw [nth0]
  · rintro m ρ ⟨k, hk, rfl, rfl⟩
    have hat : atI ((List.range (2 * k + 1)).map fun i => Wd (nth i)) (k : Int) = some (Wd (nth k)) := atI_nat (by
      rw [List.getElem?_map, List.getElem?_range (by omega)]; rfl)
    have hl : (nth k).length ≤ n := by
      by_cases e : k + 1 = 2 ^ n
      · rw [nth_len n k (by omega) (by rw [Nat.pow_succ]; omega)]; exact Nat.le_refl _
      · exact Nat.le_of_lt (nth_short n k (by omega))
    refine ⟨decide (k + 1 < 2 ^ n), fun K hK => ?_, fun hc N hN => ?_, fun hc => ?_⟩
    · refine ⟨_, hat, ?_, trivial, ?_⟩
      · show (enc _).length ≤ _
        rw [enc_len]; omega
      · show (match PyData.bool (decide (((enc (nth k)).length : Int) < n)) with | .bool b => K b _ | _ => False)
        have e : decide (((enc (nth k)).length : Int) < n) = decide (k + 1 < 2 ^ n) := by
          rw [enc_len]
          refine decide_eq_decide.mpr ⟨fun h => ?_, fun h => ?_⟩
          · refine Classical.byContradiction fun z => ?_
            have := nth_len n k (by omega) (by rw [Nat.pow_succ]; omega)
            omega
          · have := nth_short n k h
            omega
        rw [e]
        exact hK
    · have lt : k + 1 < 2 ^ n := of_decide_eq_true hc
      refine ⟨_, hat, ?_, _, hat, ?_, ?_, ?_, ?_⟩
      · show (enc _).length + 1 ≤ _
        rw [enc_len]; omega
      · show (enc _).length + 1 ≤ _
        rw [enc_len]; omega
      · exact Nat.le_of_ble_eq_true rfl
      · rw [List.length_map, List.length_range]
        show 2 * k + 1 + 2 ≤ _
        omega
      · refine hN _ (2 ^ n - (k + 1)) (by omega) ⟨k + 1, by omega, rfl, ?_⟩
        have e : (List.range (2 * (k + 1) + 1)).map (fun i => Wd (nth i)) = ((List.range (2 * k + 1)).map fun i => Wd (nth i)) ++ [S (L (mk (enc (nth k))) ++ L (mk [76])), S (L (mk (enc (nth k))) ++ L (mk [82]))] := by
          rw [show 2 * (k + 1) + 1 = 2 * k + 1 + 1 + 1 by omega, List.range_succ, List.range_succ, List.map_append, List.map_append, List.append_assoc]
          congr 1
          show [Wd (nth (2 * k + 1)), Wd (nth (2 * k + 2))] = _
          rw [nth1, nth2]
          unfold Wd
          rw [enc_app, enc_app]
          rfl
        rw [e]
        rfl
    · have e : k + 1 = 2 ^ n := by have := of_decide_eq_false hc; omega
      have e2 : 2 * k + 1 = 2 ^ (n + 1) - 1 := by rw [Nat.pow_succ]; omega
      have e3 : ((List.range (2 * k + 1)).map fun i => Wd (nth i)) = (roadsTo n).map Wd := by
        rw [e2, roadsTo, List.map_map]; rfl
      rw [e3]
      exact hq
end DL
namespace DL
open PySem PySem.Spec PyProof.Rows L2
/-! ### tables -/
abbrev Tab := List (List Bool × List Bool)
def tabK (t : Tab) : List (PyData × PyData) := t.map fun e => (Wd e.1, Wd e.2)
abbrev tabD (t : Tab) : PyData := .dict (tabK t)
def tlook : Tab → List Bool → Option (List Bool)
  | [], _ => none
  | e :: t, k => if e.1 = k then some e.2 else tlook t k
theorem keyB_Wd (a b : List Bool) : keyB (Wd a) (Wd b) = decide (a = b) := by
  show decide (mk (enc a) = mk (enc b)) = _
  exact decide_eq_decide.mpr ⟨fun h => enc_inj (mk_inj h), fun h => by rw [h]⟩
theorem dget_tab : ∀ (t : Tab) (k : List Bool), dGetD (tabK t) (Wd k) = (tlook t k).map Wd
  | [], k => rfl
  | e :: t, k => by
    have ih := dget_tab t k
    unfold dGetD dLook at ih ⊢
    show ((List.find? (fun e => keyB e.1 (Wd k)) ((Wd e.1, Wd e.2) :: tabK t)).map (·.2)) = _
    unfold tlook
    by_cases h : e.1 = k
    · rw [List.find?_cons_of_pos (by show keyB (Wd e.1) (Wd k) = true; rw [keyB_Wd]; exact decide_eq_true h), if_pos h]
      rfl
    · rw [List.find?_cons_of_neg (by show ¬ keyB (Wd e.1) (Wd k) = true; rw [keyB_Wd]; simpa using h), if_neg h]
      exact ih
theorem kdict_tab (t : Tab) : kDict (tabK t) = true := by cases t <;> rfl
/-- table[k] is asked -/
theorem get_tab {t : Tab} {k w : List Bool} (h : tlook t k = some w) : dGetD (tabK t) (Wd k) = some (Wd w) := by rw [dget_tab, h]; rfl
def tabOk (t : Tab) : Prop := ∀ e ∈ t, e.1.length ≤ 1000 ∧ e.2.length ≤ 1000
theorem tlook_mem : ∀ {t : Tab} {k w : List Bool}, tlook t k = some w → (k, w) ∈ t
  | e :: t, k, w, h => by
    unfold tlook at h
    split at h
    · rename_i q
      cases h
      rw [← q]
      exact List.mem_cons_self ..
    · exact List.mem_cons_of_mem _ (tlook_mem h)
theorem tab_len {t : Tab} (ok : tabOk t) {k w : List Bool} (h : tlook t k = some w) : k.length ≤ 1000 ∧ w.length ≤ 1000 := ok _ (tlook_mem h)
theorem S_app (a b : List Bool) : S (L (mk (enc a)) ++ L (mk (enc b))) = Wd (a ++ b) := by
  rw [L_mk, L_mk, ← enc_app]
/-- what tells the class of a road -/
def pieceN (t : Tab) (road rest : List Bool) : List Nat := enc (restA ((tlook t road).getD []) ((tlook t (road ++ rest)).getD [])) ++ [45] ++ enc (restB ((tlook t road).getD []) ((tlook t (road ++ rest)).getD []))
def markN (t : Tab) (road : List Bool) (later : List (List Bool)) : List Nat := joinN [32] (later.map (pieceN t road))
def F_mark_of : DF := fun ds q => ∃ (t : Tab) (road : List Bool) (later : List (List Bool)), ds = [tabD t, Wd road, .list (later.map Wd)] ∧ tabOk t ∧ later.length ≤ 1000 ∧ (∃ w, tlook t road = some w) ∧ (∀ r ∈ later, ∃ w, tlook t (road ++ r) = some w) ∧ q (S (markN t road later)) .none
theorem piece_len {t : Tab} (ok : tabOk t) {road : List Bool} {r w v : List Bool} (h : tlook t road = some w) (h' : tlook t (road ++ r) = some v) : (pieceN t road r).length ≤ 2001 := by
  have h1 := (tab_len ok h).2
  have h2 := (tab_len ok h').2
  unfold pieceN restA restB
  rw [h, h']
  simp only [Option.getD_some, List.length_append, enc_len, List.length_drop, List.length_singleton]
  omega
theorem sum_piece {t : Tab} (ok : tabOk t) {road : List Bool} (h : ∃ w, tlook t road = some w) : ∀ (later : List (List Bool)), (∀ r ∈ later, ∃ w, tlook t (road ++ r) = some w) →
    (((later.map (pieceN t road)).map mk).map (·.length)).sum ≤ later.length * 2001
  | [], _ => Nat.le_refl _
  | r :: later, h' => by
    obtain ⟨w, hw⟩ := h
    obtain ⟨v, hv⟩ := h' r (List.mem_cons_self ..)
    have ih := sum_piece ok ⟨w, hw⟩ later fun r hr => h' r (List.mem_cons_of_mem _ hr)
    have p := piece_len ok hw hv
    have e : (mk (pieceN t road r)).length = (pieceN t road r).length := by rw [← L_len, L_mk]
    simp only [List.map_cons, List.sum_cons, List.length_cons]
    rw [e]
    omega
theorem strs_mk : ∀ (ps : List (List Nat)), strsOf (ps.map S) = some (ps.map mk)
  | [] => rfl
  | p :: ps => by simp only [List.map_cons, strsOf, strs_mk ps, Option.map_some]
theorem pl_mark_of : PL_mark_of F_mark_of F_rests := by
  intro ds q _ _ h
  obtain ⟨t, road, later, rfl, ok, hl, ⟨w, hw⟩, hr, hq⟩ := h
  have lw := tab_len ok hw
  refine ⟨Nat.zero_le _, fun p => ⟨_, rfl, ?_⟩⟩
  refine forGo_inv (fun r ρ => ∃ (l1 l2 : List (List Bool)) (x4 x5 x6 : Option Cell), l1 ++ l2 = later ∧ r = l2.map Wd ∧
    ρ = [some (.val (tabD t)), some (.val (Wd road)), some (.val (.list (later.map Wd))), some (.own p (.list ((l1.map (pieceN t road)).map S))), x4, x5, x6]) (fun ρ hI => ?_) (fun d r ρ N hN hI => ?_) _ _ ⟨[], later, none, none, none, rfl, rfl, rfl⟩
  · obtain ⟨l1, l2, x4, x5, x6, e1, e2, rfl⟩ := hI
    obtain rfl : l2 = [] := by cases l2 with
      | nil => rfl
      | cons a l2 => cases e2
    rw [List.append_nil] at e1
    subst e1
    refine ⟨_, strs_mk _, ?_, ?_⟩
    · have := sum_piece ok ⟨w, hw⟩ l1 hr
      show _ + _ * 1 ≤ _
      rw [List.length_map, List.length_map]
      omega
    · show q (.str (Txt.join (mk [32]) ((l1.map (pieceN t road)).map mk))) .none
      rw [join_mk]
      exact hq
  · obtain ⟨l1, l2, x4, x5, x6, e1, e2, rfl⟩ := hI
    cases l2 with
    | nil => cases e2
    | cons x l2 =>
      cases e2
      obtain ⟨v, hv⟩ := hr x (by rw [← e1]; simp)
      have lv := tab_len ok hv
      have pl := piece_len ok hw hv
      refine ⟨kdict_tab t, rfl, _, get_tab hw, ?_, kdict_tab t, rfl, Wd v, ?_, Nat.le_of_ble_eq_true rfl, rfl, w, v, rfl, by omega, by omega, .inl rfl, rfl, rfl, ?_, ?_, ?_, ?_⟩
      · rw [L_mk, L_mk, enc_len, enc_len]
        have := lv.1
        rw [List.length_append] at this
        omega
      · show dGetD (tabK t) (S (L (mk (enc road)) ++ L (mk (enc x)))) = _
        rw [S_app]
        exact get_tab hv
      · show (enc (restA w v)).length + 1 ≤ _
        rw [enc_len, restA, List.length_drop]
        omega
      · show (enc (restA w v) ++ [45]).length + (enc (restB w v)).length ≤ _
        rw [List.length_append, enc_len, enc_len, restA, restB, List.length_drop, List.length_drop, List.length_singleton]
        omega
      · rw [List.length_map, List.length_map]
        have : l1.length ≤ later.length := by rw [← e1, List.length_append]; omega
        omega
      · refine hN _ ⟨l1 ++ [x], l2, some (.val (Wd x)), some (.val (Wd (restA w v))), some (.val (Wd (restB w v))), by rw [← e1]; simp, rfl, ?_⟩
        have e : pieceN t road x = enc (restA w v) ++ [45] ++ enc (restB w v) := by
          unfold pieceN
          rw [hw, hv]
          rfl
        rw [List.map_append, List.map_append, List.map_singleton, List.map_singleton, e]
        rfl
/-- one state: the table of the empty road and both turns -/
def tab3 (s l r : List Bool) : Tab := [([], s), ([false], l), ([true], r)]
theorem joinN_one (s p : List Nat) : joinN s [p] = p := rfl
theorem lcp_self : ∀ (w : List Bool), lcp w w = w.length
  | [] => rfl
  | x :: w => by
    unfold lcp
    rw [if_pos rfl, lcp_self w]; rfl
theorem restA_self (w : List Bool) : restA w w = [] := by
  unfold restA
  rw [lcp_self]
  exact List.drop_length ..
theorem restB_self (w : List Bool) : restB w w = [] := by
  unfold restB
  rw [lcp_self]
  exact List.drop_length ..
theorem roadsTo0 : roadsTo 0 = [[]] := by
  show [nth 0] = _
  rw [nth0]
theorem mark_one (t : Tab) (road : List Bool) : markN t road [[]] = [45] := by
  show pieceN t road [] = _
  unfold pieceN
  rw [List.append_nil, restA_self, restB_self]
  rfl
def F_classes_of : DF := fun ds q => ∃ s l r : List Bool, ds = [tabD (tab3 s l r), .int 1] ∧ tabOk (tab3 s l r) ∧ q (.tuple [.list [Wd []], .list [.list [.int 0, .int 0]]]) .none
theorem pl_classes_of : PL_classes_of F_classes_of F_roads_to F_mark_of := by
  intro ds q _ _ h
  obtain ⟨s, l, r, rfl, ok, hq⟩ := h
  refine ⟨trivial, rfl, 0, rfl, by decide, .inr rfl, ?_⟩
  rw [roadsTo0]
  refine ⟨Nat.le_of_ble_eq_true rfl, rfl, tab3 s l r, [], [[]], rfl, ok, Nat.le_of_ble_eq_true rfl, ⟨s, rfl⟩, fun x hx => ?_, .inl rfl, rfl, Nat.zero_le _, fun p3 p4 p5 => ?_⟩
  · rw [List.mem_singleton.mp hx]
    exact ⟨s, rfl⟩
  rw [mark_one]
  refine while_of (fun m ρ => (m = 1 ∧ ∃ x6 x7 x8 x9 : Option Cell, ρ = [some (.val (tabD (tab3 s l r))), some (.val (.int 1)), some (.val (.list [Wd []])), some (.own p3 (.list [Wd []])), some (.own p4 (.dict [(S [45], .int 0)])), some (.own p5 (.list [])), x6, x7, x8, x9]) ∨
      (m = 0 ∧ ∃ x6 x7 x8 x9 : Option Cell, ρ = [some (.val (tabD (tab3 s l r))), some (.val (.int 1)), some (.val (.list [Wd []])), some (.own p3 (.list [Wd []])), some (.own p4 (.dict [(S [45], .int 0)])), some (.own p5 (.list [.list [.int 0, .int 0]])), x6, x7, x8, x9])) ⟨1, .inl ⟨rfl, none, none, none, none, rfl⟩⟩ ?_
  rintro m ρ (⟨rfl, x6, x7, x8, x9, rfl⟩ | ⟨rfl, x6, x7, x8, x9, rfl⟩)
  · refine ⟨true, fun K hK => ⟨trivial, hK⟩, fun _ N hN => ⟨Nat.zero_le _, fun p6 => ?_⟩, fun z => nomatch z⟩
    have turn : ∀ (b : Bool) (w : List Bool), tlook (tab3 s l r) [b] = some w → ∀ r' ∈ [([] : List Bool)], ∃ w, tlook (tab3 s l r) ([b] ++ r') = some w := fun b w hw r' hr => by
      rw [List.mem_singleton.mp hr]
      exact ⟨w, hw⟩
    refine ⟨_, rfl, Wd [], rfl, by decide, rfl, tab3 s l r, [false], [[]], rfl, ok, Nat.le_of_ble_eq_true rfl, ⟨l, rfl⟩, turn false l rfl, .inl rfl, ?_⟩
    rw [mark_one]
    refine ⟨rfl, rfl, rfl, rfl, .int 0, rfl, by decide, Wd [], rfl, by decide, rfl, tab3 s l r, [true], [[]], rfl, ok, Nat.le_of_ble_eq_true rfl, ⟨r, rfl⟩, turn true r rfl, .inl rfl, ?_⟩
    rw [mark_one]
    refine ⟨rfl, rfl, rfl, rfl, .int 0, rfl, by decide, trivial, by decide, ?_⟩
    exact hN _ 0 (by decide) (.inr ⟨rfl, _, _, _, _, rfl⟩)
  · exact ⟨false, fun K hK => ⟨trivial, hK⟩, (fun z => nomatch z), fun _ => ⟨Nat.le_of_ble_eq_true rfl, hq⟩⟩
end DL
namespace DL
open PySem PySem.Spec PyProof.Rows L2
/-- what two roads have in common at their beginnings -/
def cpre (a b : List Bool) : List Bool := a.take (lcp a b)
/-- what is surely written at a state: s its word, l and r the words behind its turns, which end by so many turns written later -/
def sureOf (s l r : List Bool) (e0 e1 : Nat) : Option (List Bool) :=
  if l.length < e0 then none else
  if r.length < e1 then none else some (cpre (cpre s (l.take (l.length - e0))) (r.take (r.length - e1)))
def optD : Option (List Bool) → PyData
  | none => .none
  | some w => Wd w
def F_sure_of : DF := fun ds q => ∃ (t : Tab) (road s l r : List Bool) (p0 p1 : Nat) (es : List Nat) (e0 e1 : Nat), ds = [tabD t, Wd road, .list [.int p0, .int p1], .list (es.map fun e : Nat => PyData.int e)] ∧ tabOk t ∧
  tlook t road = some s ∧ tlook t (road ++ [false]) = some l ∧ tlook t (road ++ [true]) = some r ∧ es[p0]? = some e0 ∧ es[p1]? = some e1 ∧ q (optD (sureOf s l r e0 e1)) .none
theorem at_nats {es : List Nat} {p e : Nat} (h : es[p]? = some e) : atI (es.map fun e : Nat => PyData.int e) (p : Int) = some (.int e) := atI_nat (by rw [List.getElem?_map, h]; rfl)
theorem take_enc {w : List Bool} {a b : Nat} (h : b ≤ a) : S (cutD (L (mk (enc w))) none (some ((a : Int) - (b : Int)))) = Wd (w.take (a - b)) := by
  rw [show ((a : Int) - (b : Int)) = ((a - b : Nat) : Int) by omega, L_mk, cut_enc, cut_to]
theorem sure_cut (a b : List Bool) : a.take (a.length - (restA a b).length) = cpre a b := by
  unfold restA cpre
  rw [List.length_drop]
  congr 1
  have := (lcp_le a b).1
  omega
theorem cpre_le (a b : List Bool) : (cpre a b).length ≤ a.length := by
  unfold cpre
  rw [List.length_take]; omega
theorem LWd (w : List Bool) : ((L (mk (enc w))).length : Int) = (w.length : Nat) := by rw [L_mk, enc_len]
theorem pl_sure_of : PL_sure_of F_sure_of F_rests := by
  intro ds q a _ h
  obtain ⟨t, road, s, l, r, p0, p1, es, e0, e1, rfl, ok, hs, hl, hr, h0, h1, hq⟩ := h
  have ls := tab_len ok hs
  have ll := tab_len ok hl
  have lr := tab_len ok hr
  refine ⟨kdict_tab t, rfl, _, get_tab hs, by decide, by decide, ?_⟩
  refine forGo_inv (fun z ρ => ∃ (k : Nat) (su : List Bool) (x5 x6 : Option Cell), ρ = [some (.val (tabD t)), some (.val (Wd road)), some (.val (.list [.int p0, .int p1])), some (.val (.list (es.map fun e : Nat => PyData.int e))), some (.val (Wd su)), x5, x6] ∧ su.length ≤ 1000 ∧
    ((k = 0 ∧ z = [.int (0 : Nat), .int (1 : Nat)] ∧ su = s) ∨ (k = 1 ∧ z = [.int (1 : Nat)] ∧ ¬ l.length < e0 ∧ su = cpre s (l.take (l.length - e0))) ∨ (k = 2 ∧ z = [] ∧ sureOf s l r e0 e1 = some su))) (fun ρ hI => ?_) (fun d z ρ N hN hI => ?_) _ _ ⟨0, s, none, none, rfl, ls.2, .inl ⟨rfl, rfl, rfl⟩⟩
  · obtain ⟨k, su, x5, x6, rfl, _, h | h | h⟩ := hI
    · cases h.2.1
    · cases h.2.1
    · rw [h.2.2] at hq
      exact hq
  · obtain ⟨k, su, x5, x6, rfl, hsu, hI⟩ := hI
    -- the side k: the turn b, the word w, the state p that ends by e turns
    obtain ⟨b, w, p, e, k', hk, hw, hp, he, hd, hz⟩ : ∃ (b : Bool) (w : List Bool) (p e k' : Nat), atI (L (mk [76, 82])) (k' : Int) = some (sg b) ∧ tlook t (road ++ [b]) = some w ∧ atI [PyData.int (p0 : Nat), PyData.int (p1 : Nat)] (k' : Int) = some (.int p) ∧ es[p]? = some e ∧ d = .int k' ∧
        ((w.length < e → q .none .none) ∧ (¬ w.length < e → ∀ ρ', (∃ (x5 x6 : Option Cell), ρ' = [some (.val (tabD t)), some (.val (Wd road)), some (.val (.list [.int p0, .int p1])), some (.val (.list (es.map fun e : Nat => PyData.int e))), some (.val (Wd (cpre su (w.take (w.length - e))))), x5, x6]) → N ρ')) := by
      rcases hI with ⟨_, hz, rfl⟩ | ⟨_, hz, nl, rfl⟩ | ⟨_, hz, _⟩
      · cases hz
        refine ⟨false, l, p0, e0, 0, rfl, hl, rfl, h0, rfl, fun lt => ?_, fun nl ρ' ⟨x5, x6, e⟩ => hN _ ⟨1, _, x5, x6, e, Nat.le_trans (cpre_le _ _) ls.2, .inr (.inl ⟨rfl, rfl, nl, rfl⟩)⟩⟩
        unfold sureOf at hq
        rw [if_pos lt] at hq
        exact hq
      · cases hz
        refine ⟨true, r, p1, e1, 1, rfl, hr, rfl, h1, rfl, fun lt => ?_, fun nr ρ' ⟨x5, x6, e⟩ => hN _ ⟨2, _, x5, x6, e, Nat.le_trans (cpre_le _ _) (Nat.le_trans (cpre_le _ _) ls.2), .inr (.inr ⟨rfl, rfl, ?_⟩)⟩⟩
        · unfold sureOf at hq
          rw [if_neg nl, if_pos lt] at hq
          exact hq
        · unfold sureOf
          rw [if_neg nl, if_neg nr]
      · cases hz
    subst hd
    have lw := tab_len ok hw
    refine ⟨by decide, sg b, hk, ?_, kdict_tab t, rfl, Wd w, ?_, ?_⟩
    · show (enc road).length + 1 ≤ _
      rw [enc_len]
      omega
    · show dGetD (tabK t) (S (L (mk (enc road)) ++ L (mk (enc [b])))) = _
      rw [S_app]
      exact get_tab hw
    refine ⟨.int p, hp, .int e, at_nats he, ?_, trivial, ?_⟩
    · show (enc w).length ≤ _
      rw [enc_len]; omega
    rw [LWd]
    dsimp only
    by_cases c : w.length < e
    · rw [decide_eq_true (p := ((w.length : Nat) : Int) < (e : Nat)) (by omega)]
      exact hz.1 c
    · rw [decide_eq_false (p := ((w.length : Nat) : Int) < (e : Nat)) (by omega)]
      refine ⟨?_, .int p, hp, .int e, at_nats he, trivial, ?_, ?_⟩
      · show (enc w).length ≤ _
        rw [enc_len]; omega
      · show (enc w).length ≤ _
        rw [enc_len]; omega
      rw [LWd, take_enc (by omega)]
      have ra : (restA su (w.take (w.length - e))).length ≤ su.length := by unfold restA; rw [List.length_drop]; omega
      refine ⟨?_, Nat.le_of_ble_eq_true rfl, rfl, su, w.take (w.length - e), rfl, by omega, by rw [List.length_take]; omega, .inl rfl, Wd (restA su (w.take (w.length - e))), rfl, ?_, trivial, ?_, ?_⟩
      · show (enc su).length ≤ _
        rw [enc_len]; omega
      · show (enc _).length ≤ _
        rw [enc_len]; omega
      · show (enc su).length ≤ _
        rw [enc_len]; omega
      · rw [LWd, LWd, take_enc ra, sure_cut]
        exact hz.2 c _ ⟨_, _, rfl⟩
def F_word_between : DF := fun ds q => ∃ (t : Tab) (road s w : List Bool) (b : Bool) (e e' : Nat), ds = [tabD t, Wd road, S [sg b], .int e, .int e'] ∧ tabOk t ∧ tlook t road = some s ∧ tlook t (road ++ [b]) = some w ∧ e ≤ s.length ∧ e' ≤ w.length ∧ s.length - e ≤ w.length ∧ q (Wd ((w.drop (s.length - e)).take ((w.length - e') - (s.length - e)))) .none
theorem pl_word_between : PL_word_between F_word_between := by
  intro ds q a _ h
  obtain ⟨t, road, s, w, b, e, e', rfl, ok, hs, hw, h1, h2, h3, hq⟩ := h
  have ls := tab_len ok hs
  have lw := tab_len ok hw
  refine ⟨?_, kdict_tab t, rfl, Wd w, ?_, kdict_tab t, rfl, Wd s, get_tab hs, ?_, trivial, ?_, trivial, ?_, ?_⟩
  · show (enc road).length + 1 ≤ _
    rw [enc_len]; omega
  · show dGetD (tabK t) (S (L (mk (enc road)) ++ L (mk (enc [b])))) = _
    rw [S_app]
    exact get_tab hw
  · show (enc s).length ≤ _
    rw [enc_len]; omega
  · show (enc w).length ≤ _
    rw [enc_len]; omega
  · show (enc w).length ≤ _
    rw [enc_len]; omega
  · rw [LWd, LWd, show ((s.length : Nat) : Int) - (e : Nat) = ((s.length - e : Nat) : Int) by omega, show ((w.length : Nat) : Int) - (e' : Nat) = ((w.length - e' : Nat) : Int) by omega, L_mk, cut_enc, cut_mid (by omega) (by omega)]
    exact hq
/-! ### one state -/
/-- how many turns are written later, behind one step more -/
def later1 (s l r : List Bool) (e : Nat) : Option Nat := (sureOf s l r e e).map fun u => s.length - u.length
def endsF (s l r : List Bool) : Nat → Nat → Option Nat
  | 0, _ => none
  | n + 1, e => match later1 s l r e with
    | none => none
    | some e' => if e < e' then endsF s l r n e' else some e'
def endsD1 : Option Nat → PyData
  | none => .none
  | some e => .list [.int (e : Nat)]
def F_ends_of : DF := fun ds q => ∃ (s l r : List Bool), ds = [tabD (tab3 s l r), .list [Wd []], .list [.list [.int 0, .int 0]]] ∧ tabOk (tab3 s l r) ∧ q (endsD1 (endsF s l r (s.length + 2) 0)) .none
theorem later1_le {s l r : List Bool} {e e' : Nat} (h : later1 s l r e = some e') : e' ≤ s.length := by
  unfold later1 at h
  cases q : sureOf s l r e e with
  | none => rw [q] at h; cases h
  | some u => rw [q] at h; cases h; exact Nat.sub_le _ _
theorem pl_ends_of : PL_ends_of F_ends_of F_sure_of := by
  intro ds q a _ h
  obtain ⟨s, l, r, rfl, ok, hq⟩ := h
  have hs : tlook (tab3 s l r) [] = some s := rfl
  have ls := tab_len ok hs
  refine ⟨_, rfl, rfl, by decide, rfl, fun p => ?_⟩
  refine while_of (fun m ρ => (∃ (n e : Nat) (x5 x6 x7 : Option Cell), m = n + 1 ∧ s.length + 2 ≤ n + e ∧ e ≤ s.length ∧ endsF s l r n e = endsF s l r (s.length + 2) 0 ∧ ρ = [some (.val (tabD (tab3 s l r))), some (.val (.list [Wd []])), some (.val (.list [.list [.int 0, .int 0]])), some (.own p (.list [.int (e : Nat)])), some (.val (.bool true)), x5, x6, x7]) ∨
    (∃ (e : Nat) (x5 x6 x7 : Option Cell), m = 0 ∧ endsF s l r (s.length + 2) 0 = some e ∧ ρ = [some (.val (tabD (tab3 s l r))), some (.val (.list [Wd []])), some (.val (.list [.list [.int 0, .int 0]])), some (.own p (.list [.int (e : Nat)])), some (.val (.bool false)), x5, x6, x7]))
    ⟨_, .inl ⟨s.length + 2, 0, none, none, none, rfl, by omega, Nat.zero_le _, rfl, rfl⟩⟩ ?_
  rintro m ρ (⟨n, e, x5, x6, x7, rfl, hn, hel, hf, rfl⟩ | ⟨e, x5, x6, x7, rfl, he, rfl⟩)
  · refine ⟨true, fun K hK => hK, fun _ N hN => ?_, fun z => nomatch z⟩
    refine ⟨rfl, rfl, .list [.int 0, .int 0], rfl, rfl, tab3 s l r, [], s, l, r, 0, 0, [e], e, e, rfl, ok, rfl, rfl, rfl, rfl, rfl, ?_⟩
    obtain ⟨n', rfl⟩ : ∃ n', n = n' + 1 := ⟨n - 1, by omega⟩
    cases hsu : sureOf s l r e e with
    | none =>
      have e0 : endsF s l r (s.length + 2) 0 = none := by
        rw [← hf]
        unfold endsF later1
        rw [hsu]
        rfl
      rw [e0] at hq
      exact ⟨.inl rfl, rfl, hq⟩
    | some u =>
      have ul : u.length ≤ s.length := by
        unfold sureOf at hsu
        split at hsu
        · cases hsu
        · split at hsu
          · cases hsu
          · cases hsu
            exact Nat.le_trans (cpre_le _ _) (cpre_le _ _)
      have lt1 : later1 s l r e = some (s.length - u.length) := by
        unfold later1
        rw [hsu]
        rfl
      have eu : (((L (mk (enc s))).length : Nat) : Int) - ((L (mk (enc u))).length : Nat) = ((s.length - u.length : Nat) : Int) := by
        rw [LWd, LWd]; omega
      have lens : (L (mk (enc s))).length ≤ 16777216 := by rw [L_mk, enc_len]; omega
      have lenu : (L (mk (enc u))).length ≤ 16777216 := by rw [L_mk, enc_len]; omega
      refine ⟨.inl rfl, rfl, rfl, rfl, Wd s, rfl, lens, lenu, trivial, .int e, rfl, trivial, rfl, rfl, Wd s, rfl, lens, lenu, trivial, 0, rfl, ?_⟩
      have hstep : endsF s l r (n' + 1) e = if e < s.length - u.length then endsF s l r n' (s.length - u.length) else some (s.length - u.length) := by
        show (match later1 s l r e with | none => none | some e' => if e < e' then endsF s l r n' e' else some e') = _
        rw [lt1]
      by_cases c : e < s.length - u.length
      · refine hN _ (n' + 1) (by omega) (.inl ⟨n', s.length - u.length, some (.val (Wd [])), some (.val (.int 0)), some (.val (Wd u)), rfl, by omega, Nat.sub_le _ _, ?_, ?_⟩)
        · rw [← hf, hstep, if_pos c]
        · show ([some (.val (tabD (tab3 s l r))), some (.val (.list [Wd []])), some (.val (.list [.list [.int 0, .int 0]])), some (.own p (.list [.int ((((L (mk (enc s))).length : Nat) : Int) - ((L (mk (enc u))).length : Nat))])), some (.val (.bool (decide ((e : Int) < (((L (mk (enc s))).length : Nat) : Int) - ((L (mk (enc u))).length : Nat))))), some (.val (Wd [])), some (.val (.int 0)), some (.val (Wd u))] : DEnv) = _
          rw [eu, decide_eq_true (p := (e : Int) < ((s.length - u.length : Nat) : Int)) (by omega)]
      · refine hN _ 0 (by omega) (.inr ⟨s.length - u.length, some (.val (Wd [])), some (.val (.int 0)), some (.val (Wd u)), rfl, ?_, ?_⟩)
        · rw [← hf, hstep, if_neg c]
        · show ([some (.val (tabD (tab3 s l r))), some (.val (.list [Wd []])), some (.val (.list [.list [.int 0, .int 0]])), some (.own p (.list [.int ((((L (mk (enc s))).length : Nat) : Int) - ((L (mk (enc u))).length : Nat))])), some (.val (.bool (decide ((e : Int) < (((L (mk (enc s))).length : Nat) : Int) - ((L (mk (enc u))).length : Nat))))), some (.val (Wd [])), some (.val (.int 0)), some (.val (Wd u))] : DEnv) = _
          rw [eu, decide_eq_false (p := (e : Int) < ((s.length - u.length : Nat) : Int)) (by omega)]
  · refine ⟨false, fun K hK => hK, (fun z => nomatch z), fun _ => ?_⟩
    rw [he] at hq
    exact hq
end DL
namespace DL
open PySem PySem.Spec PyProof.Rows L2
theorem roadsTo1 : roadsTo 1 = [[], [false], [true]] := by
  show [nth 0, nth 1, nth 2] = _
  rw [show nth 1 = nth 0 ++ [false] from nth1 0, show nth 2 = nth 0 ++ [true] from nth2 0, nth0]
  rfl
theorem endsF_some {s l r : List Bool} : ∀ {n e e' : Nat}, endsF s l r n e = some e' → ∃ e1 u, sureOf s l r e1 e1 = some u ∧ e' = s.length - u.length ∧ e' ≤ e1
  | 0, e, e', h => by cases h
  | n + 1, e, e', h => by
    unfold endsF at h
    cases q : later1 s l r e with
    | none => rw [q] at h; cases h
    | some x =>
      rw [q] at h
      dsimp only at h
      split at h
      · exact endsF_some h
      · rename_i c
        cases h
        unfold later1 at q
        cases q2 : sureOf s l r e e with
        | none => rw [q2] at q; cases q
        | some u =>
          rw [q2] at q
          cases q
          exact ⟨e, u, q2, rfl, by omega⟩
theorem sureOf_len {s l r u : List Bool} {e : Nat} (h : sureOf s l r e e = some u) : e ≤ l.length ∧ e ≤ r.length ∧ u.length ≤ l.length - e ∧ u.length ≤ r.length - e ∧ u.length ≤ s.length := by
  unfold sureOf at h
  split at h
  · cases h
  · split at h
    · cases h
    · cases h
      refine ⟨by omega, by omega, ?_, ?_, ?_⟩
      · refine Nat.le_trans (cpre_le _ _) ?_
        unfold cpre
        rw [List.length_take]
        have := (lcp_le s (l.take (l.length - e))).2
        rw [List.length_take] at this
        omega
      · unfold cpre
        rw [List.length_take]
        have := (lcp_le ((s.take (lcp s (l.take (l.length - e))))) (r.take (r.length - e))).2
        rw [List.length_take] at this
        omega
      · exact Nat.le_trans (cpre_le _ _) (cpre_le _ _)
theorem ends_ok {s l r : List Bool} {n e : Nat} (h : endsF s l r n 0 = some e) : e ≤ s.length ∧ e ≤ l.length ∧ e ≤ r.length ∧ s.length - e ≤ l.length ∧ s.length - e ≤ r.length := by
  obtain ⟨e1, u, h1, h2, h3⟩ := endsF_some h
  obtain ⟨a, b, c, d, f⟩ := sureOf_len h1
  omega
/-- the machine of one state whose words end by e turns written later -/
def rowE (s l r : List Bool) (e : Nat) : Row := (((l.drop (s.length - e)).take ((l.length - e) - (s.length - e)), 0), ((r.drop (s.length - e)).take ((r.length - e) - (s.length - e)), 0), s.drop (s.length - e))
def mfO (s l r : List Bool) : Option (List Bool × Row) := match endsF s l r (s.length + 2) 0 with
  | none => none
  | some e => if [runM (s.take (s.length - e)) [rowE s l r e] [], runM (s.take (s.length - e)) [rowE s l r e] [false], runM (s.take (s.length - e)) [rowE s l r e] [true]] = [s, l, r] then some (s.take (s.length - e), rowE s l r e) else none
def mfD : Option (List Bool × Row) → PyData
  | none => .none
  | some m => macD m.1 [m.2]
def F_machine_from : DF := fun ds q => ∃ s l r : List Bool, ds = [.list [Wd s, Wd l, Wd r], .int 1] ∧ s.length ≤ 1000 ∧ l.length ≤ 1000 ∧ r.length ≤ 1000 ∧ q (mfD (mfO s l r)) .none
theorem eqv_list : ∀ (a b : List (List Bool)), PyData.eqv (.list (a.map Wd)) (.list (b.map Wd)) = decide (a = b)
  | [], [] => rfl
  | [], _ :: _ => rfl
  | _ :: _, [] => rfl
  | x :: a, y :: b => by
    have ih := eqv_list a b
    show (PyData.eqv (Wd x) (Wd y) && PyData.eqv (.list (a.map Wd)) (.list (b.map Wd))) = _
    rw [eqv_Wd, ih, Bool.eq_iff_iff]
    simp
theorem shaped_list (a : List (List Bool)) : SeqAt.shaped (.list (a.map Wd)) = true := by
  have h1 : ∀ a : List (List Bool), PyData.canLayAll0 (a.map Wd) = true := by
    intro a
    induction a with
    | nil => rfl
    | cons x a ih =>
      simp only [List.map_cons, PyData.canLayAll0, PyData.canLay0, strOk_mk (enc_lt x), ih, Bool.and_self]
  have h2 : ∀ a : List (List Bool), PyData.depthAll (a.map Wd) = 0 := by
    intro a
    induction a with
    | nil => rfl
    | cons x a ih => simp only [List.map_cons, PyData.depthAll, PyData.depth, ih, Nat.max_self]
  unfold SeqAt.shaped
  simp only [PyData.canLay0, PyData.depth, h1, h2]
  rfl
theorem merge3 (s l r : List Bool) : dMerge [] [(Wd [], Wd s), (Wd [false], Wd l), (Wd [true], Wd r)] = tabK (tab3 s l r) := by
  rfl
theorem pl_machine_from : PL_machine_from F_machine_from F_check_number F_check_road F_roads_to F_classes_of F_ends_of F_word_between F_run := by
  intro ds q a _ h
  obtain ⟨s, l, r, rfl, hs, hl, hr, hq⟩ := h
  have ok : tabOk (tab3 s l r) := by
    intro e he
    simp only [tab3, List.mem_cons, List.not_mem_nil, or_false] at he
    rcases he with rfl | rfl | rfl
    · exact ⟨Nat.zero_le _, hs⟩
    · exact ⟨Nat.le_of_ble_eq_true rfl, hl⟩
    · exact ⟨Nat.le_of_ble_eq_true rfl, hr⟩
  -- the names: the words, most, .., the table, the classes, the ends, ..
  have le1 : ∀ {n : Nat}, n ≤ 16 → n ≤ 16777216 := fun h => Nat.le_trans h (by decide)
  have w0 : some (Cell.val (.list [Wd s, Wd l, Wd r])) = some (Cell.val (.list [Wd s, Wd l, Wd r])) := rfl
  refine seq_mid [some (.val (.list [Wd s, Wd l, Wd r])), some (.val (.int 1)), none, none, none, none, none, none, none, none, none, none, none, none, none] (fun N hN => ⟨rfl, 1, 1, rfl, by decide, .inl rfl, hN⟩) ?_
  refine seq_mid [some (.val (.list [Wd s, Wd l, Wd r])), some (.val (.int 1)), some (.val (Wd r)), none, none, none, none, none, none, none, none, none, none, none, none] (fun N hN => ⟨_, rfl, rfl, s, rfl, by omega, .inl rfl, rfl, l, rfl, by omega, .inl rfl, rfl, r, rfl, by omega, .inl rfl, hN⟩) ?_
  refine seq_mid [some (.val (.list [Wd s, Wd l, Wd r])), some (.val (.int 1)), some (.val (Wd r)), some (.val (.list [Wd [], Wd [false], Wd [true]])), none, none, none, none, none, none, none, none, none, none, none] (fun N hN => ⟨.inl (by decide), trivial, rfl, 1, rfl, by decide, .inr rfl, by rw [roadsTo1]; exact hN⟩) ?_
  refine seq_mid _ (fun N hN => if_of false (fun K hK => ⟨shaped_int _, shaped_int _, by rw [eqv_int]; exact hK⟩) (fun z => nomatch z) fun _ => hN) ?_
  refine seq_mid [some (.val (.list [Wd s, Wd l, Wd r])), some (.val (.int 1)), some (.val (Wd r)), some (.val (.list [Wd [], Wd [false], Wd [true]])), some (.val (tabD (tab3 s l r))), none, none, none, none, none, none, none, none, none, none] (fun N hN => ⟨rfl, by decide, hN⟩) ?_
  refine seq_mid [some (.val (.list [Wd s, Wd l, Wd r])), some (.val (.int 1)), some (.val (Wd r)), some (.val (.list [Wd [], Wd [false], Wd [true]])), some (.val (tabD (tab3 s l r))), some (.val (.tuple [.list [Wd []], .list [.list [.int 0, .int 0]]])), none, none, none, none, none, none, none, none, none] (fun N hN => ⟨rfl, s, l, r, rfl, ok, .inr rfl, hN⟩) ?_
  refine seq_mid [some (.val (.list [Wd s, Wd l, Wd r])), some (.val (.int 1)), some (.val (Wd r)), some (.val (.list [Wd [], Wd [false], Wd [true]])), some (.val (tabD (tab3 s l r))), some (.val (.tuple [.list [Wd []], .list [.list [.int 0, .int 0]]])), some (.val (endsD1 (endsF s l r (s.length + 2) 0))), none, none, none, none, none, none, none, none] (fun N hN => ⟨rfl, _, rfl, _, rfl, rfl, s, l, r, rfl, ok, .inr rfl, hN⟩) ?_
  cases hE : endsF s l r (s.length + 2) 0 with
  | none =>
    have e0 : mfO s l r = none := by unfold mfO; rw [hE]
    rw [e0] at hq
    exact ⟨rfl, hq⟩
  | some e =>
    obtain ⟨o1, o2, o3, o4, o5⟩ := ends_ok hE
    have lens : (L (mk (enc s))).length ≤ 16777216 := by rw [L_mk, enc_len]; omega
    have c1 : S (cutD (L (mk (enc s))) (some ((((L (mk (enc s))).length : Nat) : Int) - (e : Nat))) none) = Wd (s.drop (s.length - e)) := by
      rw [LWd, show ((s.length : Nat) : Int) - (e : Nat) = ((s.length - e : Nat) : Int) by omega, L_mk, cut_enc, cut_from]
    have c2 : S (cutD (L (mk (enc s))) none (some ((((L (mk (enc s))).length : Nat) : Int) - (e : Nat)))) = Wd (s.take (s.length - e)) := by
      rw [LWd, take_enc o1]
    refine seq_mid _ (fun N hN => if_of false (fun K hK => ⟨rfl, hK⟩) (fun z => nomatch z) fun _ => hN) ?_
    refine ⟨Nat.zero_le _, fun p => ?_⟩
    dsimp only
    refine seq_mid [some (.val (.list [Wd s, Wd l, Wd r])), some (.val (.int 1)), some (.val (Wd r)), some (.val (.list [Wd [], Wd [false], Wd [true]])), some (.val (tabD (tab3 s l r))), some (.val (.tuple [.list [Wd []], .list [.list [.int 0, .int 0]]])), some (.val (.list [.int (e : Nat)])), some (.own p (.list [rowD (rowE s l r e)])), none, some (.val (Wd [])), some (.val (.list [.int 0, .int 0])), some (.val (.int e)), some (.val (mvD (rowE s l r e).1)), some (.val (mvD (rowE s l r e).2.1)), none] (fun N hN => ?_) ?_
    · refine ⟨_, rfl, _, rfl, _, _, _, rfl, rfl, rfl, rfl, rfl, ?_⟩
      dsimp only
      refine seq_mid [some (.val (.list [Wd s, Wd l, Wd r])), some (.val (.int 1)), some (.val (Wd r)), some (.val (.list [Wd [], Wd [false], Wd [true]])), some (.val (tabD (tab3 s l r))), some (.val (.tuple [.list [Wd []], .list [.list [.int 0, .int 0]]])), some (.val (.list [.int (e : Nat)])), some (.own p (.list [])), none, some (.val (Wd [])), some (.val (.list [.int 0, .int 0])), some (.val (.int e)), some (.val (mvD (rowE s l r e).1)), some (.val (mvD (rowE s l r e).2.1)), none] (fun M hM => ?_) ?_
      · refine ⟨by decide, by decide, rfl, ?_⟩
        show lcGo _ _ _ [14] [.int (0 : Nat), .int (1 : Nat)] [] [some (.val (.list [Wd s, Wd l, Wd r])), some (.val (.int 1)), some (.val (Wd r)), some (.val (.list [Wd [], Wd [false], Wd [true]])), some (.val (tabD (tab3 s l r))), some (.val (.tuple [.list [Wd []], .list [.list [.int 0, .int 0]]])), some (.val (.list [.int (e : Nat)])), some (.own p (.list [])), none, some (.val (Wd [])), some (.val (.list [.int 0, .int 0])), some (.val (.int e)), none, none, none] _
        refine lcGo_map (fun d => match d with | .int 0 => mvD (rowE s l r e).1 | _ => mvD (rowE s l r e).2.1) rfl _ _ _ (fun d hd Q1 Q2 k => ?_) (Nat.le_of_ble_eq_true rfl) ?_
        · simp only [List.mem_cons, List.not_mem_nil, or_false] at hd
          rcases hd with rfl | rfl
          · refine ⟨by decide, 76, rfl, .int (0 : Nat), rfl, .int (e : Nat), rfl, rfl, tab3 s l r, [], s, l, false, e, e, rfl, ok, rfl, rfl, o1, o2, o4, .inl rfl, .int (0 : Nat), rfl, Nat.le_of_ble_eq_true rfl, k _ rfl⟩
          · refine ⟨by decide, 82, rfl, .int (0 : Nat), rfl, .int (e : Nat), rfl, rfl, tab3 s l r, [], s, r, true, e, e, rfl, ok, rfl, rfl, o1, o3, o5, .inl rfl, .int (0 : Nat), rfl, Nat.le_of_ble_eq_true rfl, k _ rfl⟩
        · exact ⟨rfl, rfl, hM⟩
      · refine ⟨kdict_tab _, rfl, Wd s, rfl, kdict_tab _, rfl, Wd s, rfl, lens, trivial, lens, Nat.le_of_ble_eq_true rfl, Nat.le_of_ble_eq_true rfl, ?_⟩
        rw [c1]
        exact hN
    · refine ⟨kdict_tab _, rfl, Wd s, rfl, kdict_tab _, rfl, Wd s, rfl, lens, .int e, rfl, trivial, lens, Nat.le_of_ble_eq_true rfl, ?_⟩
      rw [c2]
      have mok : macOk (s.take (s.length - e)) [rowE s l r e] := by
        refine ⟨by rw [List.length_take]; omega, Nat.zero_lt_one, fun x hx => ?_⟩
        rw [List.mem_singleton.mp hx]
        refine ⟨⟨?_, Nat.zero_lt_one⟩, ⟨?_, Nat.zero_lt_one⟩, ?_⟩
        · show ((l.drop _).take _).length ≤ _
          rw [List.length_take, List.length_drop]; omega
        · show ((r.drop _).take _).length ≤ _
          rw [List.length_take, List.length_drop]; omega
        · show (s.drop _).length ≤ _
          rw [List.length_drop]; omega
      have rl : ∀ w ∈ [([] : List Bool), [false], [true]], (runM (s.take (s.length - e)) [rowE s l r e] w).length ≤ 16777216 := by
        intro w hw
        have h0 : (s.take (s.length - e)).length ≤ 1000 := by rw [List.length_take]; omega
        have h1 : (s.drop (s.length - e)).length ≤ 1000 := by rw [List.length_drop]; omega
        have h2 : ((l.drop (s.length - e)).take ((l.length - e) - (s.length - e))).length ≤ 1000 := by rw [List.length_take, List.length_drop]; omega
        have h3 : ((r.drop (s.length - e)).take ((r.length - e) - (s.length - e))).length ≤ 1000 := by rw [List.length_take, List.length_drop]; omega
        simp only [List.mem_cons, List.not_mem_nil, or_false] at hw
        rcases hw with rfl | rfl | rfl
        · show (s.take _ ++ [] ++ s.drop _).length ≤ _
          simp only [List.length_append, List.length_nil]; omega
        · show (s.take _ ++ (((l.drop (s.length - e)).take ((l.length - e) - (s.length - e))) ++ []) ++ s.drop _).length ≤ _
          simp only [List.length_append, List.length_nil]; omega
        · show (s.take _ ++ (((r.drop (s.length - e)).take ((r.length - e) - (s.length - e))) ++ []) ++ s.drop _).length ≤ _
          simp only [List.length_append, List.length_nil]; omega
      dsimp only
      refine ⟨_, rfl, rfl, ?_⟩
      show lcGo _ _ _ [9] [Wd [], Wd [false], Wd [true]] [] [some (.val (.list [Wd s, Wd l, Wd r])), some (.val (.int 1)), some (.val (Wd r)), some (.val (.list [Wd [], Wd [false], Wd [true]])), some (.val (tabD (tab3 s l r))), some (.val (.tuple [.list [Wd []], .list [.list [.int 0, .int 0]]])), some (.val (.list [.int (e : Nat)])), some (.val (.list [rowD (rowE s l r e)])), some (.val (macD (s.take (s.length - e)) [rowE s l r e])), some (.val (Wd [])), some (.val (.list [.int 0, .int 0])), some (.val (.int e)), some (.val (mvD (rowE s l r e).1)), some (.val (mvD (rowE s l r e).2.1)), none] _
      refine ⟨rfl, _, _, [], rfl, mok, by decide, rl _ (by simp), .inl rfl, Nat.lt_of_sub_eq_succ rfl, rfl, rfl, _, _, [false], rfl, mok, by decide, rl _ (by simp), .inl rfl, Nat.lt_of_sub_eq_succ rfl, rfl, rfl, _, _, [true], rfl, mok, by decide, rl _ (by simp), .inl rfl, Nat.lt_of_sub_eq_succ rfl, rfl, ?_⟩
      have es := shaped_list [runM (s.take (s.length - e)) [rowE s l r e] [], runM (s.take (s.length - e)) [rowE s l r e] [false], runM (s.take (s.length - e)) [rowE s l r e] [true]]
      have ew := shaped_list [s, l, r]
      have eq := eqv_list [runM (s.take (s.length - e)) [rowE s l r e] [], runM (s.take (s.length - e)) [rowE s l r e] [false], runM (s.take (s.length - e)) [rowE s l r e] [true]] [s, l, r]
      refine ⟨es, ew, ?_⟩
      generalize hb : id (PyData.eqv _ _) = b
      have hb2 : b = _ := hb.symm.trans eq
      clear hb
      subst hb2
      have hm : mfO s l r = if [runM (s.take (s.length - e)) [rowE s l r e] [], runM (s.take (s.length - e)) [rowE s l r e] [false], runM (s.take (s.length - e)) [rowE s l r e] [true]] = [s, l, r] then some (s.take (s.length - e), rowE s l r e) else none := by
        unfold mfO
        rw [hE]
      rw [hm] at hq
      by_cases c : [runM (s.take (s.length - e)) [rowE s l r e] [], runM (s.take (s.length - e)) [rowE s l r e] [false], runM (s.take (s.length - e)) [rowE s l r e] [true]] = [s, l, r]
      · rw [if_pos c] at hq
        rw [decide_eq_true c]
        exact hq
      · rw [if_neg c] at hq
        rw [decide_eq_false c]
        exact hq
end DL
namespace DL
open PySem PySem.Spec PyProof.Rows L2
/-! ### the law's draws: any ones -/
def purD (g s c : Int) : PyData := .list [.int g, .int s, .int c]
/-- a purse out of which at most n things were drawn -/
def PuOk (n : Nat) (d : PyData) : Prop := ∃ g s c : Int, d = purD g s c ∧ 0 ≤ g ∧ 0 ≤ s ∧ s < 1000000000000000000000007 ∧ 0 ≤ c ∧ c ≤ n
theorem PuOk.mono {n m : Nat} {d : PyData} (h : PuOk n d) (l : n ≤ m) : PuOk m d := by
  obtain ⟨g, s, c, rfl, h1, h2, h3, h4, h5⟩ := h
  exact ⟨g, s, c, rfl, h1, h2, h3, h4, by omega⟩
def F_law_coin : DF := fun ds q => ∃ (d : PyData) (n : Nat) (many : Nat), ds = [d, .int many] ∧ PuOk n d ∧ n < 1000000000 ∧ 0 < many ∧ many < 1000000000 ∧ ∀ (k : Nat) (d' : PyData), k < many → PuOk (n + 1) d' → q (.int k) d'
theorem log2_small {n k : Nat} (h : n < 2 ^ (k + 1)) : n.log2 ≤ k := by
  have := PySem.Flt.log2_lt_of (n := n) (k := k + 1) (by omega) h
  omega
theorem pl_law_coin : PL_law_coin F_law_coin := by
  intro ds q a _ h
  obtain ⟨d, n, many, rfl, ⟨g, s, c, rfl, h1, h2, h3, h4, h5⟩, hn, hm, hm2, hq⟩ := h
  refine seq_mid [some (.own a (purD g s c)), some (.val (.int many)), none, none] (fun N hN => if_of (decide (0 < g)) (fun K hK => ⟨.int g, rfl, trivial, hK⟩) (fun z => ?_) fun z => ?_) ?_
  · have hmz : (0 : Int) < (many : Nat) := by omega
    have hdiv : CDivW g (many : Nat) := ⟨hmz, Nat.lt_of_le_of_lt (log2_small (k := 30) (by simp only [Int.natAbs_natCast]; omega)) (by decide)⟩
    refine ⟨.int g, rfl, hmz, .int g, rfl, hdiv, 0, rfl, ?_⟩
    have e1 : ((g % (many : Nat)).toNat : Int) = g % (many : Nat) := Int.toNat_of_nonneg (Int.emod_nonneg _ (by omega))
    have lt1 : g % (many : Nat) < many := Int.emod_lt_of_pos _ hmz
    have := hq (g % (many : Nat)).toNat (purD (g / (many : Nat)) s c) (by omega) ⟨_, s, c, rfl, Int.ediv_nonneg h1 (by omega), h2, h3, h4, by omega⟩
    rw [e1] at this
    exact ⟨_, rfl, this⟩
  · exact hN
  · refine seq_mid [some (.own a (purD g s (c + 1))), some (.val (.int many)), none, none] (fun N hN => ⟨.int c, rfl, 2, rfl, hN⟩) ?_
    have pw : ∀ (x : Int) (e : Int), 0 ≤ e → e ≤ 3 → 0 ≤ x → x < 2 ^ 200 → CPowW x e := fun x e he he3 h0 h1 => by
      refine ⟨he, ?_⟩
      have : x.natAbs.log2 ≤ 200 := log2_small (k := 200) (by
        have : (x.natAbs : Int) < (2 : Int) ^ 201 := by
          rw [Int.natAbs_of_nonneg h0]
          refine Int.lt_trans h1 (by decide)
        exact_mod_cast this)
      have h3 : ((x.natAbs.log2 + 1 : Nat) : Int) ≤ 201 := by omega
      have h4 : ((x.natAbs.log2 + 1 : Nat) : Int) * e ≤ 201 * 3 := Int.mul_le_mul h3 he3 he (by decide)
      omega
    have m1 : (0 : Int) < 10 ^ (25 : Int).toNat + 13 := by decide
    have m2 : (0 : Int) < 10 ^ (24 : Int).toNat + 7 := by decide
    have b1 : (0 : Int) ≤ s + 2038074743 * (c + 1) := by omega
    have b2 : s + 2038074743 * (c + 1) < 2 ^ 200 := Int.lt_trans (show s + 2038074743 * (c + 1) < 10000000000000000000000000 by omega) (by decide)
    have st1 := Int.emod_nonneg ((s + 2038074743 * (c + 1)) ^ (3 : Int).toNat) (Int.ne_of_gt m1)
    have st2 := Int.emod_lt_of_pos ((s + 2038074743 * (c + 1)) ^ (3 : Int).toNat) m1
    refine seq_mid [some (.own a (purD g s (c + 1))), some (.val (.int many)), some (.val (.int ((s + 2038074743 * (c + 1)) ^ (3 : Int).toNat % (10 ^ (25 : Int).toNat + 13)))), none] (fun N hN => ⟨.int s, rfl, .int (c + 1), rfl, .inl (by decide), pw _ 3 (by decide) (by decide) b1 b2, ⟨by decide, by decide +kernel⟩, m1, hN⟩) ?_
    generalize (s + 2038074743 * (c + 1)) ^ (3 : Int).toNat % (10 ^ (25 : Int).toNat + 13) = t1 at st1 st2 ⊢
    have st2' : t1 < 10000000000000000000000013 := by
      have e : (10 : Int) ^ (25 : Int).toNat + 13 = 10000000000000000000000013 := by decide
      rw [e] at st2
      exact st2
    have b3 : (0 : Int) ≤ t1 + 982451653 * (c + 1) := by omega
    have b4 : t1 + 982451653 * (c + 1) < 2 ^ 200 := Int.lt_trans (show t1 + 982451653 * (c + 1) < 100000000000000000000000000 by omega) (by decide)
    have st3 := Int.emod_nonneg ((t1 + 982451653 * (c + 1)) ^ (2 : Int).toNat) (Int.ne_of_gt m2)
    refine seq_mid [some (.own a (purD g s (c + 1))), some (.val (.int many)), some (.val (.int ((t1 + 982451653 * (c + 1)) ^ (2 : Int).toNat % (10 ^ (24 : Int).toNat + 7)))), none] (fun N hN => ⟨.int (c + 1), rfl, .inl (by decide), pw _ 2 (by decide) (by decide) b3 b4, ⟨by decide, by decide +kernel⟩, m2, hN⟩) ?_
    generalize (t1 + 982451653 * (c + 1)) ^ (2 : Int).toNat % (10 ^ (24 : Int).toNat + 7) = t2 at st3 ⊢
    have hmz : (0 : Int) < (many : Nat) := by omega
    refine ⟨⟨by decide, by decide +kernel⟩, hmz, ?_⟩
    have e1 : ((t2 / 1024 % (many : Nat)).toNat : Int) = t2 / 1024 % (many : Nat) := Int.toNat_of_nonneg (Int.emod_nonneg _ (by omega))
    have lt1 : t2 / 1024 % (many : Nat) < many := Int.emod_lt_of_pos _ hmz
    have := hq (t2 / 1024 % (many : Nat)).toNat (purD g s (c + 1)) (by omega) ⟨_, s, c + 1, rfl, h1, h2, h3, by omega, by omega⟩
    rw [e1] at this
    exact ⟨_, rfl, this⟩
def F_law_bk_way : DF := fun ds q => ∃ (d : PyData) (n top : Nat), ds = [d, .int top] ∧ PuOk n d ∧ n + top + 2 < 1000000000 ∧ top < 1000000 ∧ ∀ (w : List Bool) (d' : PyData), w.length ≤ top → PuOk (n + top + 1) d' → q (Wd w) d'
theorem PuOk.pur {n : Nat} {d : PyData} (h : PuOk n d) : ∃ l, d = .list l := by
  obtain ⟨g, s, c, rfl, _⟩ := h
  exact ⟨_, rfl⟩
theorem sg_at {k : Nat} (h : k < 2) : atI (L (mk [76, 82])) ((k : Nat) : Int) = some (sg (decide (k = 1))) := by
  match k, h with
  | 0, _ => rfl
  | 1, _ => rfl
theorem pl_law_bk_way : PL_law_bk_way F_law_bk_way F_law_coin := by
  intro ds q a _ h
  obtain ⟨d, n, top, rfl, hd, hn, ht, hq⟩ := h
  refine ⟨rfl, d, n, top + 1, rfl, hd, by omega, by omega, by omega, fun k d' hk hd' => ?_⟩
  refine ⟨by show (-4611686018427387904 : Int) ≤ (k : Nat); omega, by show ((k : Nat) : Int) < 4611686018427387904; omega, ?_⟩
  refine forGo_inv (fun r ρ => ∃ (i : Nat) (w : List Bool) (d2 : PyData) (x3 : Option Cell), r.length + i = k ∧ w.length = i ∧ PuOk (n + 1 + i) d2 ∧ ρ = [some (.own a d2), some (.val (.int top)), some (.val (Wd w)), x3]) (fun ρ hI => ?_) (fun z r ρ N hN hI => ?_) _ _ ⟨0, [], d', none, by simp, rfl, hd', rfl⟩
  · obtain ⟨i, w, d2, x3, e1, e2, hp, rfl⟩ := hI
    refine ⟨d2, rfl, hq w d2 ?_ (hp.mono ?_)⟩
    · simp at e1; omega
    · simp at e1; omega
  · obtain ⟨i, w, d2, x3, e1, e2, hp, rfl⟩ := hI
    rw [List.length_cons] at e1
    refine ⟨rfl, d2, n + 1 + i, 2, rfl, hp, by omega, by decide, by decide, fun j d3 hj hd3 => ?_⟩
    refine ⟨by decide, _, sg_at hj, ?_, ?_⟩
    · show (enc w).length + 1 ≤ _
      rw [enc_len]; omega
    · refine hN _ ⟨i + 1, w ++ [decide (j = 1)], d3, some (.val z), by omega, by simp [e2], hd3, ?_⟩
      have : S (L (mk (enc w)) ++ L (mk [sg (decide (j = 1))])) = Wd (w ++ [decide (j = 1)]) := by
        rw [L_mk, L_mk]
        unfold Wd
        rw [enc_app]
        rfl
      rw [← this]
      rfl
end DL
namespace DL
open PySem PySem.Spec PyProof.Rows L2
/-- a drawn machine: many states, words of at most top turns -/
def shOk (many top : Nat) (f : List Bool) (rows : List Row) : Prop := f.length ≤ top ∧ rows.length = many ∧ ∀ r ∈ rows, r.1.1.length ≤ top ∧ r.1.2 < many ∧ r.2.1.1.length ≤ top ∧ r.2.1.2 < many ∧ r.2.2.length ≤ top
def F_law_bk_shape : DF := fun ds q => ∃ (d : PyData) (n many top : Nat), ds = [d, .int many, .int top] ∧ PuOk n d ∧ n + (3 * top + 5) * (many + 1) + 5 < 1000000000 ∧ top < 1000000 ∧ many < 1000000 ∧ 0 < many ∧ ∀ (f : List Bool) (rows : List Row) (d' : PyData), shOk many top f rows → PuOk (n + (3 * top + 5) * (many + 1)) d' → q (macD f rows) d'
theorem pl_law_bk_shape : PL_law_bk_shape F_law_bk_shape F_law_bk_way F_law_coin := by
  intro ds q a _ h
  obtain ⟨d, n, many, top, rfl, hd, hn, ht, hm, hm0, hq⟩ := h
  refine ⟨Nat.zero_le _, fun p => ?_⟩
  dsimp only
  refine ⟨by show (-4611686018427387904 : Int) ≤ (many : Nat); omega, by show ((many : Nat) : Int) < 4611686018427387904; omega, ?_⟩
  refine forGo_inv (fun r ρ => ∃ (i : Nat) (rows : List Row) (d2 : PyData) (x4 x5 x6 : Option Cell), r.length + i = many ∧ rows.length = i ∧ (∀ r ∈ rows, r.1.1.length ≤ top ∧ r.1.2 < many ∧ r.2.1.1.length ≤ top ∧ r.2.1.2 < many ∧ r.2.2.length ≤ top) ∧ PuOk (n + (3 * top + 5) * i) d2 ∧
    ρ = [some (.own a d2), some (.val (.int many)), some (.val (.int top)), some (.own p (.list (rows.map rowD))), x4, x5, x6]) (fun ρ hI => ?_) (fun z r ρ N hN hI => ?_) _ _ ⟨0, [], d, none, none, none, by simp, rfl, (fun _ h => nomatch h), hd, rfl⟩
  · obtain ⟨i, rows, d2, x4, x5, x6, e1, e2, hr, hp, rfl⟩ := hI
    have ei : i = many := by simpa using e1
    subst ei
    have es : (3 * top + 5) * (i + 1) = (3 * top + 5) * i + (3 * top + 5) := by rw [Nat.mul_succ]
    refine ⟨rfl, d2, n + (3 * top + 5) * i, top, rfl, hp, by omega, by omega, fun f d3 hf hd3 => ?_⟩
    refine ⟨Nat.le_of_ble_eq_true rfl, d3, rfl, hq f rows d3 ⟨hf, e2, hr⟩ (hd3.mono ?_)⟩
    omega
  · obtain ⟨i, rows, d2, x4, x5, x6, e1, e2, hr, hp, rfl⟩ := hI
    rw [List.length_cons] at e1
    have es : (3 * top + 5) * (many + 1) = (3 * top + 5) * many + (3 * top + 5) := by rw [Nat.mul_succ]
    have ei : (3 * top + 5) * (i + 1) = (3 * top + 5) * i + (3 * top + 5) := by rw [Nat.mul_succ]
    have le : (3 * top + 5) * (i + 1) ≤ (3 * top + 5) * many := Nat.mul_le_mul_left _ (by omega)
    refine ⟨rfl, d2, _, top, rfl, hp, by omega, by omega, fun w1 d3 hw1 hd3 => ?_⟩
    refine ⟨rfl, d3, _, many, rfl, hd3, by omega, hm0, by omega, fun k1 d4 hk1 hd4 => ⟨Nat.le_of_ble_eq_true rfl, ?_⟩⟩
    refine ⟨rfl, d4, _, top, rfl, hd4, by omega, by omega, fun w2 d5 hw2 hd5 => ?_⟩
    refine ⟨rfl, d5, _, many, rfl, hd5, by omega, hm0, by omega, fun k2 d6 hk2 hd6 => ⟨Nat.le_of_ble_eq_true rfl, ?_⟩⟩
    refine ⟨rfl, d6, _, top, rfl, hd6, by omega, by omega, fun w3 d7 hw3 hd7 => ⟨Nat.le_of_ble_eq_true rfl, ?_, ?_⟩⟩
    · rw [List.length_map]; omega
    · refine hN _ ⟨i + 1, rows ++ [((w1, k1), (w2, k2), w3)], d7, some (.val z), some (.val (mvD (w1, k1))), some (.val (mvD (w2, k2))), by omega, by simp [e2], fun x hx => ?_, hd7.mono (by omega), ?_⟩
      · rcases List.mem_append.mp hx with hx | hx
        · exact hr x hx
        · rw [List.mem_singleton.mp hx]
          exact ⟨hw1, hk1, hw2, hk2, hw3⟩
      · rw [List.map_append]
        rfl
/-- what a drawn machine writes, and where a road ends -/
def F_law_bk_walk : DF := fun ds q => ∃ (f : List Bool) (rows : List Row) (w : List Bool), ds = [macD f rows, Wd w] ∧ (∀ x ∈ rows, rowOk rows.length x) ∧ 0 < rows.length ∧ w.length ≤ 16777216 ∧ (f ++ (walk rows 0 w).1).length ≤ 16777216 ∧ q (.tuple [Wd (f ++ (walk rows 0 w).1), .int (walk rows 0 w).2]) .none
theorem pl_law_bk_walk : PL_law_bk_walk F_law_bk_walk := by
  intro ds q a _ h
  obtain ⟨f, rows, w, rfl, ok, hs, hw, ht, hq⟩ := h
  refine ⟨_, rfl, ?_⟩
  refine ⟨_, rfl, ?_⟩
  refine forGo_inv (fun r ρ => ∃ (w2 : List Bool) (s2 : Nat) (g : List Bool) (x2 x5 : Option Cell), r = w2.map (fun b => S [sg b]) ∧ s2 < rows.length ∧ g ++ (walk rows s2 w2).1 = f ++ (walk rows 0 w).1 ∧ (walk rows s2 w2).2 = (walk rows 0 w).2 ∧
    ρ = [some (.val (macD f rows)), some (.val (Wd w)), x2, some (.val (Wd g)), some (.val (.int s2)), x5]) (fun ρ hI => ?_) (fun d r ρ N hN hI => ?_) _ _ ?_
  · obtain ⟨w2, s2, g, x2, x5, e, l3, e2, e3, rfl⟩ := hI
    obtain rfl : w2 = [] := by
      cases w2 with
      | nil => rfl
      | cons b w2 => cases e
    simp only [walk, List.append_nil] at e2
    refine ⟨Nat.le_of_ble_eq_true rfl, ?_⟩
    rw [e2, show s2 = (walk rows 0 w).2 from e3]
    exact hq
  · obtain ⟨w2, s2, g, x2, x5, e, l3, e2, e3, rfl⟩ := hI
    cases w2 with
    | nil => cases e
    | cons b w2 =>
      cases e
      obtain ⟨r, hr⟩ : ∃ r, rows[s2]? = some r := ⟨_, List.getElem?_eq_getElem l3⟩
      have hwk : walk rows s2 (b :: w2) = ((mvOf r b).1 ++ (walk rows (mvOf r b).2 w2).1, (walk rows (mvOf r b).2 w2).2) := by
        conv => lhs; unfold walk
        rw [hr]
      rw [hwk] at e2 e3
      have lg : (g ++ (mvOf r b).1).length ≤ 16777216 := by
        have := congrArg List.length e2
        simp only [List.length_append] at this ht ⊢
        omega
      have ixs : gIndex (S [76, 82]) (S [sg b]) = gIndex (S [76, 82]) (S [sg b]) := rfl
      cases b with
      | false =>
        refine ⟨_, rfl, _, at_row hr, rfl, .inl ⟨rfl, mvD r.1, rfl, rfl, rfl, ?_, ?_⟩⟩
        · show (enc g).length + (enc _).length ≤ _
          rw [enc_len, enc_len, ← List.length_append]
          exact lg
        · refine hN _ ⟨w2, r.1.2, g ++ r.1.1, some (.val (S [76])), some (.val (Wd r.1.1)), rfl, (mv_ok ok hr false).2, by rw [List.append_assoc]; exact e2, e3, ?_⟩
          rw [← S_app]
          rfl
      | true =>
        refine ⟨_, rfl, _, at_row hr, rfl, .inr ⟨rfl, mvD r.2.1, rfl, rfl, rfl, ?_, ?_⟩⟩
        · show (enc g).length + (enc _).length ≤ _
          rw [enc_len, enc_len, ← List.length_append]
          exact lg
        · refine hN _ ⟨w2, r.2.1.2, g ++ r.2.1.1, some (.val (S [82])), some (.val (Wd r.2.1.1)), rfl, (mv_ok ok hr true).2, by rw [List.append_assoc]; exact e2, e3, ?_⟩
          rw [← S_app]
          rfl
  · refine ⟨w, 0, f, none, none, ?_, hs, rfl, rfl, rfl⟩
    show (L (mk (enc w))).map _ = _
    rw [L_mk, enc, List.map_map]
    rfl
def F_law_bk_run : DF := fun ds q => ∃ (f : List Bool) (rows : List Row) (w : List Bool), ds = [macD f rows, Wd w] ∧ (∀ x ∈ rows, rowOk rows.length x) ∧ 0 < rows.length ∧ w.length ≤ 16777216 ∧ (runM f rows w).length ≤ 16777216 ∧ q (Wd (runM f rows w)) .none
theorem pl_law_bk_run : PL_law_bk_run F_law_bk_run F_law_bk_walk := by
  intro ds q a _ h
  obtain ⟨f, rows, w, rfl, ok, hs, hw, hl, hq⟩ := h
  have hs2 := walk_lt ok w 0 hs
  obtain ⟨r, hr⟩ : ∃ r, rows[(walk rows 0 w).2]? = some r := ⟨_, List.getElem?_eq_getElem hs2⟩
  have e : runM f rows w = f ++ (walk rows 0 w).1 ++ r.2.2 := by unfold runM; rw [hr]; rfl
  rw [e] at hl hq
  simp only [List.length_append] at hl
  refine ⟨rfl, f, rows, w, rfl, ok, hs, hw, by rw [List.length_append]; omega, .inl rfl, rfl, rfl, ?_⟩
  refine ⟨_, rfl, _, at_row hr, Wd r.2.2, rfl, ?_, ?_⟩
  · show (enc _).length + (enc _).length ≤ _
    rw [enc_len, enc_len, List.length_append]; omega
  · show q (S (enc _ ++ enc _)) .none
    rw [← enc_app]
    exact hq
end DL
namespace DL
open PySem PySem.Spec PyProof.Rows L2
/-- the word t begins and ends as the word s does, cut e turns ahead of its end -/
def fitB (s t : List Bool) (e : Nat) : Bool := decide (t.take (s.length - e) = s.take (s.length - e)) && decide (t.drop (t.length - e) = s.drop (s.length - e))
def goodB (s l r : List Bool) (e : Nat) : Bool := (decide (s.length ≤ l.length) && decide (s.length ≤ r.length)) && fitB s l e && fitB s r e
def dueO (s l r : List Bool) : Option (List Bool × Row) := ((List.range (s.length + 1)).find? (goodB s l r)).map fun e => (s.take (s.length - e), rowE s l r e)
def F_law_due : DF := fun ds q => ∃ s l r : List Bool, ds = [.list [Wd s, Wd l, Wd r]] ∧ s.length ≤ 1000 ∧ l.length ≤ 1000 ∧ r.length ≤ 1000 ∧ q (mfD (dueO s l r)) .none
theorem Llen (w : List Bool) (h : w.length ≤ 1000) : (L (mk (enc w))).length ≤ 16777216 := by rw [L_mk, enc_len]; omega
theorem find_first {p : Nat → Bool} {n i : Nat} (hi : i < n) (h : ∀ j, j < i → p j = false) (hp : p i = true) : (List.range n).find? p = some i := by
  rw [List.find?_range_eq_some]
  refine ⟨hp, List.mem_range.mpr hi, fun j hj => ?_⟩
  rw [h j hj]; rfl
theorem find_never {p : Nat → Bool} {n : Nat} (h : ∀ j, j < n → p j = false) : (List.range n).find? p = none := by
  rw [List.find?_eq_none]
  intro x hx
  rw [h x (List.mem_range.mp hx)]
  exact Bool.false_ne_true
theorem pl_law_due : PL_law_due F_law_due := by
  intro ds q a _ h
  obtain ⟨s, l, r, rfl, hs, hl, hr, hq⟩ := h
  have z : ∀ w : List Bool, w.length ≤ 1000 → (L (mk (enc w))).length ≤ 16777216 := Llen
  refine seq_mid [some (.val (.list [Wd s, Wd l, Wd r])), none, some (.val (Wd s)), some (.val (Wd l)), some (.val (Wd r)), none, none, none, none, none] (fun N hN => ⟨rfl, rfl, hN⟩) ?_
  refine ⟨z s hs, ?_⟩
  have en : (((L (mk (enc s))).length : Nat) : Int) + 1 = ((s.length + 1 : Nat) : Int) := by rw [LWd]; omega
  refine ⟨by rw [LWd]; omega, by rw [LWd]; omega, ?_⟩
  rw [en]
  refine forGo_inv (fun q ρ => ∃ (i : Nat) (x1 x5 x6 x7 x8 x9 : Option Cell), q = (List.range' i (s.length + 1 - i)).map (fun k => PyData.int (k : Nat)) ∧ i ≤ s.length + 1 ∧ (∀ j, j < i → goodB s l r j = false) ∧
    ρ = [some (.val (.list [Wd s, Wd l, Wd r])), x1, some (.val (Wd s)), some (.val (Wd l)), some (.val (Wd r)), x5, x6, x7, x8, x9]) (fun ρ hI => ?_) (fun d q' ρ N hN hI => ?_) _ _ ?_
  · obtain ⟨i, x1, x5, x6, x7, x8, x9, e, hi, hb, rfl⟩ := hI
    have ei : i = s.length + 1 := by
      have := congrArg List.length e
      simp only [List.length_nil, List.length_map, List.length_range'] at this
      omega
    subst ei
    have e0 : dueO s l r = none := by
      unfold dueO
      rw [find_never hb]
      rfl
    rw [e0] at hq
    exact hq
  · obtain ⟨i, x1, x5, x6, x7, x8, x9, e, hi, hb, rfl⟩ := hI
    have lt : i < s.length + 1 := by
      have := congrArg List.length e
      simp only [List.length_cons, List.length_map, List.length_range'] at this
      omega
    rw [show s.length + 1 - i = (s.length + 1 - (i + 1)) + 1 by omega, List.range'_succ, List.map_cons] at e
    cases e
    have es : (((L (mk (enc s))).length : Nat) : Int) - (i : Nat) = ((s.length - i : Nat) : Int) := by rw [LWd]; omega
    have elast : (s.drop (s.length - i)).length = i := by rw [List.length_drop]; omega
    refine seq_mid [some (.val (.list [Wd s, Wd l, Wd r])), some (.val (.int i)), some (.val (Wd s)), some (.val (Wd l)), some (.val (Wd r)), some (.val (.int ((s.length - i : Nat) : Int))), x6, x7, x8, x9] (fun M hM => ⟨z s hs, trivial, by dsimp only; rw [es]; exact hM⟩) ?_
    refine seq_mid [some (.val (.list [Wd s, Wd l, Wd r])), some (.val (.int i)), some (.val (Wd s)), some (.val (Wd l)), some (.val (Wd r)), some (.val (.int ((s.length - i : Nat) : Int))), some (.val (Wd (s.drop (s.length - i)))), x7, x8, x9] (fun M hM => ⟨z s hs, ?_⟩) ?_
    · have : S (cutD (L (mk (enc s))) (some ((s.length - i : Nat) : Int)) none) = Wd (s.drop (s.length - i)) := by rw [L_mk, cut_enc, cut_from]
      rw [this]
      exact hM
    refine seq_mid [some (.val (.list [Wd s, Wd l, Wd r])), some (.val (.int i)), some (.val (Wd s)), some (.val (Wd l)), some (.val (Wd r)), some (.val (.int ((s.length - i : Nat) : Int))), some (.val (Wd (s.drop (s.length - i)))), some (.val (.bool (decide (s.length ≤ l.length) && decide (s.length ≤ r.length)))), x8, x9] (fun M hM => ⟨z l hl, z s hs, trivial, ?_⟩) ?_
    · rw [LWd, LWd]
      dsimp only
      by_cases c : s.length ≤ l.length
      · rw [decide_eq_true (p := ((s.length : Nat) : Int) ≤ (l.length : Nat)) (by omega)]
        refine ⟨z r hr, z s hs, trivial, ?_⟩
        rw [LWd, LWd]
        dsimp only
        rw [decide_eq_true c, Bool.true_and] at hM
        have e2 : decide (((s.length : Nat) : Int) ≤ (r.length : Nat)) = decide (s.length ≤ r.length) := decide_eq_decide.mpr (by omega)
        rw [e2]
        exact hM
      · rw [decide_eq_false (p := ((s.length : Nat) : Int) ≤ (l.length : Nat)) (by omega)]
        rw [decide_eq_false c, Bool.false_and] at hM
        exact hM
    -- both words are held against the first one
    refine seq_mid [some (.val (.list [Wd s, Wd l, Wd r])), some (.val (.int i)), some (.val (Wd s)), some (.val (Wd l)), some (.val (Wd r)), some (.val (.int ((s.length - i : Nat) : Int))), some (.val (Wd (s.drop (s.length - i)))), some (.val (.bool (goodB s l r i))), some (.val (Wd r)), x9] (fun M hM => ⟨Nat.le_of_ble_eq_true rfl, _, rfl, ?_⟩) ?_
    · refine forGo_inv (fun q ρ => ∃ (g : Bool) (x8 : Option Cell), ρ = [some (.val (.list [Wd s, Wd l, Wd r])), some (.val (.int i)), some (.val (Wd s)), some (.val (Wd l)), some (.val (Wd r)), some (.val (.int ((s.length - i : Nat) : Int))), some (.val (Wd (s.drop (s.length - i)))), some (.val (.bool g)), x8, x9] ∧ (g = true → s.length ≤ l.length ∧ s.length ≤ r.length) ∧
        ((q = [Wd l, Wd r] ∧ g = (decide (s.length ≤ l.length) && decide (s.length ≤ r.length))) ∨ (q = [Wd r] ∧ g = (decide (s.length ≤ l.length) && decide (s.length ≤ r.length) && fitB s l i)) ∨ (q = [] ∧ g = goodB s l r i ∧ x8 = some (.val (Wd r))))) (fun ρ hJ => ?_) (fun d q2 ρ M' hM' hJ => ?_) _ _ ⟨_, x8, rfl, fun h => by simpa using h, .inl ⟨rfl, rfl⟩⟩
      · obtain ⟨g, x8, rfl, _, h | h | h⟩ := hJ
        · cases h.1
        · cases h.1
        · obtain ⟨_, rfl, rfl⟩ := h
          exact hM
      · obtain ⟨g, x8, rfl, hg, hJ⟩ := hJ
        obtain ⟨t, rfl, lt', htl, hM2⟩ : ∃ t : List Bool, d = Wd t ∧ t.length ≤ 1000 ∧ (g = true → s.length ≤ t.length) ∧ M' [some (.val (.list [Wd s, Wd l, Wd r])), some (.val (.int i)), some (.val (Wd s)), some (.val (Wd l)), some (.val (Wd r)), some (.val (.int ((s.length - i : Nat) : Int))), some (.val (Wd (s.drop (s.length - i)))), some (.val (.bool (g && fitB s t i))), some (.val (Wd t)), x9] := by
          rcases hJ with ⟨e, eg⟩ | ⟨e, eg⟩ | ⟨e, _⟩
          · cases e
            exact ⟨l, rfl, hl, fun h => (hg h).1, hM' _ ⟨_, _, rfl, fun h => hg (by simp only [Bool.and_eq_true] at h; exact h.1), .inr (.inl ⟨rfl, by rw [eg]⟩)⟩⟩
          · cases e
            exact ⟨r, rfl, hr, fun h => (hg h).2, hM' _ ⟨_, _, rfl, fun h => hg (by simp only [Bool.and_eq_true] at h; exact h.1), .inr (.inr ⟨rfl, by rw [eg]; rfl, rfl⟩)⟩⟩
          · cases e
        cases g with
        | false => exact hM2
        | true =>
          have tl := htl rfl
          have q1 : S (cutD (L (mk (enc t))) none (some ((s.length - i : Nat) : Int))) = Wd (t.take (s.length - i)) := by rw [L_mk, cut_enc, cut_to]
          have q2 : S (cutD (L (mk (enc s))) none (some ((s.length - i : Nat) : Int))) = Wd (s.take (s.length - i)) := by rw [L_mk, cut_enc, cut_to]
          have q3 : S (cutD (L (mk (enc t))) (some ((((L (mk (enc t))).length : Nat) : Int) - ((L (mk (enc (s.drop (s.length - i))))).length : Nat))) none) = Wd (t.drop (t.length - i)) := by
            rw [LWd, LWd, elast, show ((t.length : Nat) : Int) - (i : Nat) = ((t.length - i : Nat) : Int) by omega, L_mk, cut_enc, cut_from]
          refine ⟨z t lt', z s hs, ?_⟩
          rw [q1, q2]
          refine ⟨shaped_Wd _, shaped_Wd _, ?_⟩
          rw [eqv_Wd]
          by_cases c : t.take (s.length - i) = s.take (s.length - i)
          · rw [decide_eq_true c]
            refine ⟨z t lt', z _ (by rw [elast]; omega), trivial, z t lt', ?_⟩
            dsimp only
            rw [q3]
            refine ⟨shaped_Wd _, shaped_Wd _, ?_⟩
            rw [eqv_Wd]
            have ef : fitB s t i = decide (t.drop (t.length - i) = s.drop (s.length - i)) := by unfold fitB; rw [decide_eq_true c, Bool.true_and]
            rw [Bool.true_and, ef] at hM2
            exact hM2
          · rw [decide_eq_false c]
            have ef : fitB s t i = false := by unfold fitB; rw [decide_eq_false c, Bool.false_and]
            rw [Bool.true_and, ef] at hM2
            exact hM2
    cases hgd : goodB s l r i with
    | true =>
      have hdue : dueO s l r = some (s.take (s.length - i), rowE s l r i) := by
        unfold dueO
        rw [find_first lt hb hgd]
        rfl
      rw [hdue] at hq
      have hlen : s.length ≤ l.length ∧ s.length ≤ r.length := by
        unfold goodB at hgd
        simp only [Bool.and_eq_true, decide_eq_true_eq] at hgd
        exact hgd.1.1
      have near : ∀ t : List Bool, t.length ≤ 1000 → s.length ≤ t.length → S (cutD (L (mk (enc t))) (some ((s.length - i : Nat) : Int)) (some ((((L (mk (enc t))).length : Nat) : Int) - ((L (mk (enc (s.drop (s.length - i))))).length : Nat)))) = Wd ((t.drop (s.length - i)).take ((t.length - i) - (s.length - i))) := fun t _ tl => by
        rw [LWd, LWd, elast, show ((t.length : Nat) : Int) - (i : Nat) = ((t.length - i : Nat) : Int) by omega, L_mk, cut_enc, cut_mid (by omega) (by omega)]
      have q2 : S (cutD (L (mk (enc s))) none (some ((s.length - i : Nat) : Int))) = Wd (s.take (s.length - i)) := by rw [L_mk, cut_enc, cut_to]
      refine ⟨z l hl, z _ (by rw [elast]; omega), trivial, z l hl, ?_⟩
      dsimp only
      rw [near l hl hlen.1]
      refine ⟨z s hs, Nat.le_of_ble_eq_true rfl, z r hr, z _ (by rw [elast]; omega), trivial, z r hr, Nat.le_of_ble_eq_true rfl, Nat.le_of_ble_eq_true rfl, Nat.le_of_ble_eq_true rfl, Nat.le_of_ble_eq_true rfl, ?_⟩
      dsimp only
      rw [near r hr hlen.2, q2]
      exact hq
    | false =>
      refine hN _ ⟨i + 1, _, _, _, _, _, _, rfl, by omega, fun j hj => ?_, rfl⟩
      by_cases e : j = i
      · rw [e]; exact hgd
      · exact hb j (by omega)
  · refine ⟨0, none, none, none, none, none, none, ?_, by omega, (fun j h => by omega), rfl⟩
    rw [Nat.sub_zero]
    show (List.range ((s.length + 1 : Nat) : Int).toNat).map _ = _
    rw [Int.toNat_natCast, List.range_eq_range']
end DL
namespace DL
open PySem PySem.Spec PyProof.Rows L2
theorem seq_inv {u v : DTS} {E : DEnds} {ρ : DEnv} (I : DEnv → Prop) (h1 : ∀ N : DEnv → Prop, (∀ ρ', I ρ' → N ρ') → u { E with nx := N } ρ) (h2 : ∀ ρ', I ρ' → v E ρ') : sSeq u v E ρ := h1 _ h2
theorem at_two {k : Nat} (h : k < 2) : ∃ top : Nat, (top = 4 ∨ top = 19) ∧ atI [PyData.int 4, PyData.int 19] (k : Int) = some (.int (top : Nat)) := by
  match k, h with
  | 0, _ => exact ⟨4, .inl rfl, rfl⟩
  | 1, _ => exact ⟨19, .inr rfl, rfl⟩
/-- three words -/
def wsOk (ws : List (List Bool)) : Prop := ws.length = 3 ∧ ∀ w ∈ ws, w.length ≤ 200
def F_law_rows : DF := fun ds q => ∃ (d : PyData) (n : Nat), ds = [d] ∧ PuOk n d ∧ n < 1000000 ∧ ∀ (ws : List (List Bool)) (d' : PyData), wsOk ws → PuOk (n + 1000) d' → q (.list (ws.map Wd)) d'
theorem run1_len {top : Nat} {f : List Bool} {rows : List Row} (h : shOk 1 top f rows) (ht : top ≤ 19) {w : List Bool} (hw : w = [] ∨ w = [false] ∨ w = [true]) : (runM f rows w).length ≤ 57 := by
  obtain ⟨h1, h2, h3⟩ := h
  obtain ⟨r, rfl⟩ : ∃ r, rows = [r] := by
    match rows, h2 with
    | [r], _ => exact ⟨r, rfl⟩
  obtain ⟨a, b, c, d, e⟩ := h3 r (by simp)
  have b0 : r.1.2 = 0 := by omega
  have d0 : r.2.1.2 = 0 := by omega
  rcases hw with rfl | rfl | rfl
  · show (f ++ [] ++ r.2.2).length ≤ _
    simp only [List.length_append, List.length_nil]; omega
  · show (f ++ (r.1.1 ++ []) ++ ((([r] : List Row)[r.1.2]?).map (fun x : Row => x.2.2)).getD []).length ≤ _
    rw [b0]
    show (f ++ (r.1.1 ++ []) ++ r.2.2).length ≤ _
    simp only [List.length_append, List.length_nil]; omega
  · show (f ++ (r.2.1.1 ++ []) ++ ((([r] : List Row)[r.2.1.2]?).map (fun x : Row => x.2.2)).getD []).length ≤ _
    rw [d0]
    show (f ++ (r.2.1.1 ++ []) ++ r.2.2).length ≤ _
    simp only [List.length_append, List.length_nil]; omega
theorem sh_rows {many top : Nat} {f : List Bool} {rows : List Row} (h : shOk many top f rows) (ht : top ≤ 1000) : ∀ x ∈ rows, rowOk rows.length x := fun x hx => by
  obtain ⟨_, h2, h3⟩ := h
  obtain ⟨a, b, c, d, e⟩ := h3 x hx
  rw [h2]
  exact ⟨⟨by omega, b⟩, ⟨by omega, d⟩, by omega⟩
theorem ws_set {ws : List (List Bool)} (h : wsOk ws) {w : List Bool} (hw : w.length ≤ 200) (j : Nat) : wsOk (ws.set j w) := by
  refine ⟨by rw [List.length_set]; exact h.1, fun x hx => ?_⟩
  rcases List.mem_or_eq_of_mem_set hx with hx | rfl
  · exact h.2 x hx
  · exact hw
theorem map_set_Wd (ws : List (List Bool)) (j : Nat) (w : List Bool) : (ws.map Wd).set j (Wd w) = (ws.set j w).map Wd := by rw [List.map_set]
theorem pl_law_rows : PL_law_rows F_law_rows F_law_bk_shape F_law_coin F_law_bk_run F_law_bk_way := by
  intro ds q a _ h
  obtain ⟨d, n, rfl, hd, hn, hq⟩ := h
  refine seq_inv (fun ρ => ∃ (d2 : PyData) (top : Nat) (f : List Bool) (rows : List Row), PuOk (n + 300) d2 ∧ top ≤ 19 ∧ shOk 1 top f rows ∧ ρ = [some (.own a d2), some (.val (macD f rows)), none, none, none, none, none, none, none]) (fun N hN => ?_) ?_
  · refine ⟨Nat.le_of_ble_eq_true rfl, rfl, d, n, 2, rfl, hd, by omega, by decide, by decide, fun k d2 hk hd2 => ?_⟩
    obtain ⟨top, ht, hat⟩ := at_two hk
    refine ⟨_, hat, rfl, d2, n + 1, 1, top, rfl, hd2, by omega, by omega, by decide, by decide, fun f rows d3 hsh hd3 => ?_⟩
    exact hN _ ⟨d3, top, f, rows, hd3.mono (by omega), by omega, hsh, rfl⟩
  rintro ρ ⟨d2, top, f, rows, hd2, ht, hsh, rfl⟩
  refine seq_inv (fun ρ => ∃ (p : Addr) (ws : List (List Bool)), wsOk ws ∧ (∀ w ∈ ws, w.length ≤ 57) ∧ ρ = [some (.own a d2), some (.val (macD f rows)), some (.own p (.list (ws.map Wd))), none, none, none, none, none, none]) (fun N hN => ?_) ?_
  · refine ⟨Nat.le_of_ble_eq_true rfl, _, rfl, rfl, ?_⟩
    have ok := sh_rows hsh (by omega)
    have l0 : 0 < rows.length := by rw [hsh.2.1]; exact Nat.zero_lt_one
    have r0 := run1_len hsh ht (w := []) (.inl rfl)
    have r1 := run1_len hsh ht (w := [false]) (.inr (.inl rfl))
    have r2 := run1_len hsh ht (w := [true]) (.inr (.inr rfl))
    refine ⟨rfl, f, rows, [], rfl, ok, l0, by decide, by omega, .inl rfl, Nat.lt_of_sub_eq_succ rfl, rfl, rfl, f, rows, [false], rfl, ok, l0, by decide, by omega, .inl rfl, Nat.lt_of_sub_eq_succ rfl, rfl, rfl, f, rows, [true], rfl, ok, l0, by decide, by omega, .inl rfl, Nat.lt_of_sub_eq_succ rfl, rfl, fun p => ?_⟩
    refine hN _ ⟨p, [runM f rows [], runM f rows [false], runM f rows [true]], ⟨rfl, fun w hw => ?_⟩, fun w hw => ?_, rfl⟩
    all_goals
      simp only [List.mem_cons, List.not_mem_nil, or_false] at hw
      rcases hw with rfl | rfl | rfl <;> omega
  rintro ρ ⟨p, ws, hws, hw57, rfl⟩
  refine seq_inv (fun ρ => ∃ (d3 : PyData) (pick spot : Nat), PuOk (n + 302) d3 ∧ pick < 6 ∧ spot < 3 ∧ ρ = [some (.own a d3), some (.val (macD f rows)), some (.own p (.list (ws.map Wd))), none, some (.val (.int pick)), some (.val (.int spot)), none, none, none]) (fun N hN => ?_) ?_
  · refine ⟨rfl, d2, n + 300, 6, rfl, hd2, by omega, by decide, by decide, fun k d3 hk hd3 => ?_⟩
    refine ⟨rfl, d3, n + 301, 3, rfl, hd3, by omega, by decide, by decide, fun k2 d4 hk2 hd4 => ?_⟩
    exact hN _ ⟨d4, k, k2, hd4, hk, hk2, rfl⟩
  rintro ρ ⟨d3, pick, spot, hd3, hpick, hspot, rfl⟩
  obtain ⟨tx, htx⟩ : ∃ tx, ws[spot]? = some tx := ⟨_, List.getElem?_eq_getElem (by rw [hws.1]; exact hspot)⟩
  have ltx := hw57 tx (List.mem_of_getElem? htx)
  have hat : atI (ws.map Wd) ((spot : Nat) : Int) = some (Wd tx) := atI_nat (by rw [List.getElem?_map, htx]; rfl)
  have hix : ixN (ws.map Wd).length ((spot : Nat) : Int) = some spot := by
    rw [List.length_map, hws.1]
    unfold ixN
    rw [if_pos (by omega), if_pos (by omega), Int.toNat_natCast]
  have eqp : ∀ j : Nat, PyData.eqv (.int ((pick : Nat) : Int)) (.int ((j : Nat) : Int)) = decide (pick = j) := fun j => by
    rw [eqv_int]
    exact decide_eq_decide.mpr (by omega)
  refine seq_mid [some (.own a d3), some (.val (macD f rows)), some (.own p (.list (ws.map Wd))), some (.val (Wd tx)), some (.val (.int pick)), some (.val (.int spot)), none, none, none] (fun N hN => ⟨_, hat, hN⟩) ?_
  have lenx : (L (mk (enc tx))).length ≤ 16777216 := by rw [L_mk, enc_len]; omega
  refine seq_mid [some (.own a d3), some (.val (macD f rows)), some (.own p (.list (ws.map Wd))), some (.val (Wd tx)), some (.val (.int pick)), some (.val (.int spot)), none, none, none] (fun N hN => if_of (decide (pick = 0)) (fun K hK => ⟨shaped_int _, shaped_int _, by rw [show (PyData.int 0) = .int ((0 : Nat) : Int) from rfl, eqp]; exact hK⟩) (fun _ => ?_) fun _ => hN) ?_
  · refine ⟨by decide, by decide, rfl, ?_⟩
    refine ⟨rfl, d3, n + 302, 5, rfl, hd3, by omega, by decide, fun w1 d4 h1 hd4 => ⟨Nat.lt_of_sub_eq_succ rfl, rfl, ?_⟩⟩
    refine ⟨rfl, d4, _, 5, rfl, hd4, by omega, by decide, fun w2 d5 h2 hd5 => ⟨Nat.lt_of_sub_eq_succ rfl, rfl, ?_⟩⟩
    refine ⟨rfl, d5, _, 5, rfl, hd5, by omega, by decide, fun w3 d6 h3 hd6 => ⟨Nat.lt_of_sub_eq_succ rfl, rfl, ?_⟩⟩
    refine ⟨d6, rfl, hq [w1, w2, w3] d6 ⟨rfl, fun w hw => ?_⟩ (hd6.mono (by omega))⟩
    simp only [List.mem_cons, List.not_mem_nil, or_false] at hw
    rcases hw with rfl | rfl | rfl <;> omega
  -- one of the words is changed, perhaps
  have pt : ∀ (j : Nat) (ws' : List (List Bool)) (d' : PyData) (x6 : Option Cell) (K : Bool → DEnv → Prop), K (decide (pick = j)) [some (.own a d'), some (.val (macD f rows)), some (.own p (.list (ws'.map Wd))), some (.val (Wd tx)), some (.val (.int pick)), some (.val (.int spot)), x6, none, none] →
      dB (d2x (gEq id) (dN 4) (dC (.int ((j : Nat) : Int)))) [some (.own a d'), some (.val (macD f rows)), some (.own p (.list (ws'.map Wd))), some (.val (Wd tx)), some (.val (.int pick)), some (.val (.int spot)), x6, none, none] K := fun j ws' d' x6 K hK => ⟨shaped_int _, shaped_int _, by rw [eqp]; exact hK⟩
  refine seq_inv (fun ρ => ∃ (d4 : PyData) (ws' : List (List Bool)), PuOk (n + 303) d4 ∧ wsOk ws' ∧ ρ = [some (.own a d4), some (.val (macD f rows)), some (.own p (.list (ws'.map Wd))), some (.val (Wd tx)), some (.val (.int pick)), some (.val (.int spot)), none, none, none]) (fun N hN => if_of (decide (pick = 1)) (pt 1 ws d3 none) (fun _ => ?_) fun _ => hN _ ⟨d3, ws, hd3.mono (by omega), hws, rfl⟩) ?_
  · refine ⟨rfl, d3, n + 302, 2, rfl, hd3, by omega, by decide, by decide, fun k d4 hk hd4 => ?_⟩
    refine ⟨by decide, _, sg_at hk, ?_, spot, hix, hN _ ⟨d4, ws.set spot (tx ++ [decide (k = 1)]), hd4, ws_set hws (by rw [List.length_append, List.length_singleton]; omega) spot, ?_⟩⟩
    · show (enc tx).length + 1 ≤ _
      rw [enc_len]; omega
    · rw [← map_set_Wd, ← S_app]
      rfl
  rintro ρ ⟨d4, ws', hd4, hws', rfl⟩
  have hix' : ixN (ws'.map Wd).length ((spot : Nat) : Int) = some spot := by
    rw [List.length_map, hws'.1]
    unfold ixN
    rw [if_pos (by omega), if_pos (by omega), Int.toNat_natCast]
  refine seq_inv (fun ρ => ∃ (ws2 : List (List Bool)), wsOk ws2 ∧ ρ = [some (.own a d4), some (.val (macD f rows)), some (.own p (.list (ws2.map Wd))), some (.val (Wd tx)), some (.val (.int pick)), some (.val (.int spot)), none, none, none]) (fun N hN => if_of (decide (pick = 2)) (pt 2 ws' d4 none) (fun _ => ?_) fun _ => hN _ ⟨ws', hws', rfl⟩) ?_
  · refine ⟨lenx, spot, hix', hN _ ⟨ws'.set spot (tx.drop 1), ws_set hws' (by rw [List.length_drop]; omega) spot, ?_⟩⟩
    have e : S (cutD (L (mk (enc tx))) (some 1) none) = Wd (tx.drop 1) := by
      rw [show (1 : Int) = ((1 : Nat) : Int) from rfl, L_mk, cut_enc, cut_from]
    rw [← map_set_Wd, ← e]
    rfl
  rintro ρ ⟨ws2, hws2, rfl⟩
  have hix2 : ixN (ws2.map Wd).length ((spot : Nat) : Int) = some spot := by
    rw [List.length_map, hws2.1]
    unfold ixN
    rw [if_pos (by omega), if_pos (by omega), Int.toNat_natCast]
  refine seq_inv (fun ρ => ∃ (d5 : PyData) (ws3 : List (List Bool)) (x6 : Option Cell), PuOk (n + 305) d5 ∧ wsOk ws3 ∧ ρ = [some (.own a d5), some (.val (macD f rows)), some (.own p (.list (ws3.map Wd))), some (.val (Wd tx)), some (.val (.int pick)), some (.val (.int spot)), x6, none, none]) (fun N hN => if_of (decide (pick = 3)) (pt 3 ws2 d4 none) (fun _ => ?_) fun _ => hN _ ⟨d4, ws2, none, hd4.mono (by omega), hws2, rfl⟩) ?_
  · refine ⟨lenx, rfl, d4, n + 303, tx.length + 1, ?_, hd4, by omega, by omega, by omega, fun k d5 hk hd5 => ?_⟩
    · show [d4, PyData.int (((L (mk (enc tx))).length : Nat) + 1)] = _
      rw [LWd]
      rfl
    dsimp only
    refine ⟨lenx, rfl, d5, n + 304, 2, rfl, hd5, by omega, by decide, by decide, fun k2 d6 hk2 hd6 => ?_⟩
    have e1 : S (cutD (L (mk (enc tx))) none (some ((k : Nat) : Int))) = Wd (tx.take k) := by rw [L_mk, cut_enc, cut_to]
    have e2 : S (cutD (L (mk (enc tx))) (some (((k : Nat) : Int) + 1)) none) = Wd (tx.drop (k + 1)) := by
      rw [show ((k : Nat) : Int) + 1 = ((k + 1 : Nat) : Int) by omega, L_mk, cut_enc, cut_from]
    rw [e1]
    refine ⟨by decide, _, sg_at hk2, ?_, lenx, ?_⟩
    · show (enc (tx.take k)).length + 1 ≤ _
      rw [enc_len, List.length_take]; omega
    dsimp only
    rw [e2]
    refine ⟨?_, spot, hix2, hN _ ⟨d6, ws2.set spot (tx.take k ++ [decide (k2 = 1)] ++ tx.drop (k + 1)), some (.val (.int k)), hd6, ws_set hws2 (by simp only [List.length_append, List.length_take, List.length_drop, List.length_singleton]; omega) spot, ?_⟩⟩
    · show (enc (tx.take k) ++ [sg (decide (k2 = 1))]).length + (enc (tx.drop (k + 1))).length ≤ _
      rw [List.length_append, enc_len, enc_len, List.length_take, List.length_drop, List.length_singleton]; omega
    · rw [← map_set_Wd, ← S_app, enc_app]
      rfl
  rintro ρ ⟨d5, ws3, x6, hd5, hws3, rfl⟩
  exact ⟨d5, rfl, hq ws3 d5 hws3 (hd5.mono (by omega))⟩
end DL
namespace DL
open PySem PySem.Spec PyProof.Rows L2
/-! ### the plain law: what is returned is what is due -/
theorem lcp_ge : ∀ (a b : List Bool) (k : Nat), k ≤ lcp a b ↔ k ≤ a.length ∧ k ≤ b.length ∧ a.take k = b.take k
  | [], b, k => by
    have : lcp [] b = 0 := by cases b <;> rfl
    rw [this]
    constructor
    · intro h; obtain rfl : k = 0 := by omega
      exact ⟨Nat.zero_le _, Nat.zero_le _, by simp⟩
    · intro h; exact h.1
  | x :: a, [], k => by
    show k ≤ 0 ↔ _
    constructor
    · intro h; obtain rfl : k = 0 := by omega
      exact ⟨Nat.zero_le _, Nat.zero_le _, by simp⟩
    · intro h; exact h.2.1
  | x :: a, y :: b, 0 => by simp
  | x :: a, y :: b, k + 1 => by
    unfold lcp
    have ih := lcp_ge a b k
    by_cases e : x = y
    · rw [if_pos e]
      simp only [List.length_cons, List.take_succ_cons, List.cons.injEq, Nat.add_le_add_iff_right, ih, e, true_and]
    · rw [if_neg e]
      simp [e]
/-- the ends fit at e -/
def preOk (s t : List Bool) (e : Nat) : Prop := s.length - e ≤ lcp s (t.take (t.length - e))
def qOk (s l r : List Bool) (e : Nat) : Prop := e ≤ l.length ∧ e ≤ r.length ∧ preOk s l e ∧ preOk s r e
theorem sure_ge {s l r u : List Bool} {e k : Nat} (h : sureOf s l r e e = some u) : k ≤ u.length ↔ k ≤ lcp s (l.take (l.length - e)) ∧ k ≤ lcp s (r.take (r.length - e)) := by
  unfold sureOf at h
  split at h
  · cases h
  · split at h
    · cases h
    · cases h
      have h1 := (lcp_le s (l.take (l.length - e))).1
      have e1 : (cpre (cpre s (l.take (l.length - e))) (r.take (r.length - e))).length = lcp (cpre s (l.take (l.length - e))) (r.take (r.length - e)) := by
        unfold cpre
        rw [List.length_take]
        exact Nat.min_eq_left (lcp_le _ _).1
      rw [e1, lcp_ge, lcp_ge s (r.take (r.length - e))]
      have e2 : (cpre s (l.take (l.length - e))).length = lcp s (l.take (l.length - e)) := by
        unfold cpre
        rw [List.length_take]; omega
      rw [e2]
      constructor
      · rintro ⟨a, b, c⟩
        unfold cpre at c
        rw [List.take_take, Nat.min_eq_left a] at c
        exact ⟨a, by omega, b, c⟩
      · rintro ⟨a, _, b, c⟩
        refine ⟨a, b, ?_⟩
        unfold cpre
        rw [List.take_take, Nat.min_eq_left a]
        exact c
theorem sure_some {s l r : List Bool} {e : Nat} (h1 : e ≤ l.length) (h2 : e ≤ r.length) : ∃ u, sureOf s l r e e = some u := by
  unfold sureOf
  rw [if_neg (by omega), if_neg (by omega)]
  exact ⟨_, rfl⟩
theorem sure_q {s l r u : List Bool} {e : Nat} (h : sureOf s l r e e = some u) : s.length - u.length ≤ e ↔ qOk s l r e := by
  obtain ⟨a, b, _, _, hu⟩ := sureOf_len h
  have g := sure_ge (k := s.length - e) h
  unfold qOk preOk
  constructor
  · intro hh
    obtain ⟨x, y⟩ := g.mp (by omega)
    exact ⟨a, b, x, y⟩
  · rintro ⟨_, _, x, y⟩
    have := g.mpr ⟨x, y⟩
    omega
theorem lcp_take_mono {s t : List Bool} {e e' : Nat} (h : e ≤ e') : lcp s (t.take (t.length - e')) ≤ lcp s (t.take (t.length - e)) := by
  rw [lcp_ge]
  obtain ⟨a, b, c⟩ := (lcp_ge s (t.take (t.length - e')) _).mp (Nat.le_refl _)
  rw [List.length_take] at b ⊢
  refine ⟨a, by omega, ?_⟩
  rw [c, List.take_take, List.take_take, Nat.min_eq_left (by omega), Nat.min_eq_left (by omega)]
theorem sure_mono {s l r u u' : List Bool} {e e' : Nat} (h : sureOf s l r e e = some u) (h' : sureOf s l r e' e' = some u') (le : e ≤ e') : u'.length ≤ u.length := by
  rw [sure_ge h]
  obtain ⟨x, y⟩ := (sure_ge (k := u'.length) h').mp (Nat.le_refl _)
  exact ⟨Nat.le_trans x (lcp_take_mono le), Nat.le_trans y (lcp_take_mono le)⟩
/-- what ends_of finds is the least that fits -/
theorem endsF_least {s l r : List Bool} : ∀ (n e : Nat), s.length + 2 ≤ n + e → e ≤ s.length → (∀ j, j < e → ¬ qOk s l r j) →
    (∃ e', endsF s l r n e = some e' ∧ qOk s l r e' ∧ e' ≤ s.length ∧ ∀ j, j < e' → ¬ qOk s l r j) ∨ (endsF s l r n e = none ∧ ∀ j, ¬ qOk s l r j)
  | 0, e, h, he, _ => by omega
  | n + 1, e, h, he, hb => by
    unfold endsF later1
    by_cases c : e ≤ l.length ∧ e ≤ r.length
    · obtain ⟨u, hu⟩ := sure_some (s := s) c.1 c.2
      rw [hu]
      show (∃ e', (if e < s.length - u.length then endsF s l r n (s.length - u.length) else some (s.length - u.length)) = some e' ∧ _) ∨ ((if e < s.length - u.length then endsF s l r n (s.length - u.length) else some (s.length - u.length)) = none ∧ _)
      by_cases lt : e < s.length - u.length
      · rw [if_pos lt]
        refine endsF_least n _ (by omega) (Nat.sub_le _ _) fun j hj hq => ?_
        by_cases je : j < e
        · exact hb j je hq
        · obtain ⟨v, hv⟩ := sure_some (s := s) hq.1 hq.2.1
          have h1 := (sure_q hv).mpr hq
          have h2 := sure_mono hu hv (by omega)
          omega
      · rw [if_neg lt]
        have le : s.length - u.length ≤ e := by omega
        have qe := (sure_q hu).mp le
        have e2 : s.length - u.length = e := by
          refine Classical.byContradiction fun ne1 => ?_
          have lt2 : s.length - u.length < e := by omega
          refine hb _ lt2 ?_
          obtain ⟨v, hv⟩ := sure_some (s := s) (l := l) (r := r) (e := s.length - u.length) (by omega) (by omega)
          refine (sure_q hv).mp ?_
          have := sure_mono hv hu le
          have vl := (sureOf_len hv).2.2.2.2
          omega
        exact .inl ⟨_, rfl, by rw [e2]; exact qe, Nat.sub_le _ _, by rw [e2]; exact hb⟩
    · have hn : sureOf s l r e e = none := by
        unfold sureOf
        by_cases c1 : l.length < e
        · rw [if_pos c1]
        · rw [if_neg c1, if_pos (by omega)]
      rw [hn]
      refine .inr ⟨rfl, fun j hq => ?_⟩
      by_cases je : j < e
      · exact hb j je hq
      · have := hq.1
        have := hq.2.1
        omega
def sufOk (s t : List Bool) (e : Nat) : Prop := t.drop (t.length - e) = s.drop (s.length - e)
theorem pre_iff {s t : List Bool} {e : Nat} (he : e ≤ s.length) (ht : e ≤ t.length) : preOk s t e ↔ s.length ≤ t.length ∧ t.take (s.length - e) = s.take (s.length - e) := by
  unfold preOk
  rw [lcp_ge, List.length_take]
  constructor
  · rintro ⟨_, b, c⟩
    rw [List.take_take, Nat.min_eq_left (by omega)] at c
    exact ⟨by omega, c.symm⟩
  · rintro ⟨b, c⟩
    refine ⟨by omega, by omega, ?_⟩
    rw [List.take_take, Nat.min_eq_left (by omega)]
    exact c.symm
theorem good_iff {s l r : List Bool} {e : Nat} (he : e ≤ s.length) : goodB s l r e = true ↔ qOk s l r e ∧ sufOk s l e ∧ sufOk s r e := by
  unfold goodB fitB qOk sufOk
  simp only [Bool.and_eq_true, decide_eq_true_eq]
  constructor
  · rintro ⟨⟨⟨a, b⟩, c, d⟩, f, g⟩
    exact ⟨⟨by omega, by omega, (pre_iff he (by omega)).mpr ⟨a, c⟩, (pre_iff he (by omega)).mpr ⟨b, f⟩⟩, d, g⟩
  · rintro ⟨⟨a, b, c, d⟩, f, g⟩
    obtain ⟨c1, c2⟩ := (pre_iff he a).mp c
    obtain ⟨d1, d2⟩ := (pre_iff he b).mp d
    exact ⟨⟨⟨c1, d1⟩, c2, f⟩, d2, g⟩
theorem suf_down {s t : List Bool} {e e' : Nat} (le : e ≤ e') (hs : e' ≤ s.length) (ht : e' ≤ t.length) (h : sufOk s t e') : sufOk s t e := by
  unfold sufOk at h ⊢
  have := congrArg (List.drop (e' - e)) h
  rw [List.drop_drop, List.drop_drop] at this
  rw [show t.length - e' + (e' - e) = t.length - e by omega, show s.length - e' + (e' - e) = s.length - e by omega] at this
  exact this
theorem run_iff {s t : List Bool} {e : Nat} (he : e ≤ s.length) (ht : e ≤ t.length) (p : preOk s t e) : s.take (s.length - e) ++ ((t.drop (s.length - e)).take ((t.length - e) - (s.length - e)) ++ []) ++ s.drop (s.length - e) = t ↔ sufOk s t e := by
  obtain ⟨h1, h2⟩ := (pre_iff he ht).mp p
  have e1 : s.take (s.length - e) ++ ((t.drop (s.length - e)).take ((t.length - e) - (s.length - e)) ++ []) = t.take (t.length - e) := by
    rw [← h2, List.append_nil]
    have := List.take_add (i := s.length - e) (j := (t.length - e) - (s.length - e)) (l := t)
    rw [show s.length - e + ((t.length - e) - (s.length - e)) = t.length - e by omega] at this
    exact this.symm
  rw [e1]
  unfold sufOk
  constructor
  · intro h
    have h3 : t.take (t.length - e) ++ s.drop (s.length - e) = t.take (t.length - e) ++ t.drop (t.length - e) := by rw [h, List.take_append_drop]
    exact (List.append_cancel_left h3).symm
  · intro h
    rw [← h, List.take_append_drop]
theorem due_eq (s l r : List Bool) : mfO s l r = dueO s l r := by
  rcases endsF_least (s := s) (l := l) (r := r) (s.length + 2) 0 (by omega) (Nat.zero_le _) (fun j h => by omega) with ⟨e, he, hq, hes, hb⟩ | ⟨he, hn⟩
  · have hr := run_iff (t := l) hes hq.1 hq.2.2.1
    have hr2 := run_iff (t := r) hes hq.2.1 hq.2.2.2
    have cond : ([runM (s.take (s.length - e)) [rowE s l r e] [], runM (s.take (s.length - e)) [rowE s l r e] [false], runM (s.take (s.length - e)) [rowE s l r e] [true]] = [s, l, r]) ↔ (sufOk s l e ∧ sufOk s r e) := by
      rw [← hr, ← hr2]
      show [s.take (s.length - e) ++ [] ++ s.drop (s.length - e), s.take (s.length - e) ++ ((l.drop (s.length - e)).take ((l.length - e) - (s.length - e)) ++ []) ++ s.drop (s.length - e), s.take (s.length - e) ++ ((r.drop (s.length - e)).take ((r.length - e) - (s.length - e)) ++ []) ++ s.drop (s.length - e)] = [s, l, r] ↔ _
      have e0 : s.take (s.length - e) ++ [] ++ s.drop (s.length - e) = s := by rw [List.append_nil, List.take_append_drop]
      rw [e0]
      simp only [List.cons.injEq, and_true, true_and]
    have hm : mfO s l r = if [runM (s.take (s.length - e)) [rowE s l r e] [], runM (s.take (s.length - e)) [rowE s l r e] [false], runM (s.take (s.length - e)) [rowE s l r e] [true]] = [s, l, r] then some (s.take (s.length - e), rowE s l r e) else none := by
      unfold mfO
      rw [he]
    rw [hm]
    have nb : ∀ j, j < e → goodB s l r j = false := fun j hj => by
      cases g : goodB s l r j with
      | false => rfl
      | true => exact absurd ((good_iff (by omega)).mp g).1 (hb j hj)
    by_cases c : sufOk s l e ∧ sufOk s r e
    · rw [if_pos (cond.mpr c)]
      unfold dueO
      rw [find_first (by omega) nb ((good_iff hes).mpr ⟨hq, c⟩)]
      rfl
    · rw [if_neg fun z => c (cond.mp z)]
      unfold dueO
      rw [find_never fun j hj => ?_]
      · rfl
      · cases g : goodB s l r j with
        | false => rfl
        | true =>
          obtain ⟨gq, g1, g2⟩ := (good_iff (by omega)).mp g
          have je : e ≤ j := by
            refine Classical.byContradiction fun z => hb j (by omega) gq
          exact absurd ⟨suf_down je (by omega) gq.1 g1, suf_down je (by omega) gq.2.1 g2⟩ c
  · have hm : mfO s l r = none := by
      unfold mfO
      rw [he]
    rw [hm]
    unfold dueO
    rw [find_never fun j hj => ?_]
    · rfl
    · cases g : goodB s l r j with
      | false => rfl
      | true => exact absurd ((good_iff (by omega)).mp g).1 (hn j)
end DL
namespace DL
open PySem PySem.Spec PyProof.Rows L2
def F_law_right : DF := fun ds q => ∃ (d : PyData) (n : Nat), ds = [d] ∧ PuOk n d ∧ n < 1000 ∧ ∀ e, q (.bool true) e
theorem shows_mf {s l r : List Bool} (hs : s.length ≤ 1000) (hl : l.length ≤ 1000) (hr : r.length ≤ 1000) : Shows (mfD (mfO s l r)) := by
  have row : ∀ e : Nat, (rowE s l r e).1.1.length ≤ 1000 ∧ (rowE s l r e).2.1.1.length ≤ 1000 ∧ (rowE s l r e).2.2.length ≤ 1000 ∧ (rowE s l r e).1.2 = 0 ∧ (rowE s l r e).2.1.2 = 0 := fun e => by
    refine ⟨?_, ?_, ?_, rfl, rfl⟩
    · show ((l.drop _).take _).length ≤ _
      rw [List.length_take, List.length_drop]; omega
    · show ((r.drop _).take _).length ≤ _
      rw [List.length_take, List.length_drop]; omega
    · show (s.drop _).length ≤ _
      rw [List.length_drop]; omega
  have one : ∀ m : List Bool × Row, m.1.length ≤ 1000 → m.2.1.1.length ≤ 1000 → m.2.2.1.1.length ≤ 1000 → m.2.2.2.length ≤ 1000 → m.2.1.2 = 0 → m.2.2.1.2 = 0 → Shows (mfD (some m)) := by
    rintro ⟨f, ⟨w1, k1⟩, ⟨w2, k2⟩, w3⟩ h1 h2 h3 h4 h5 h6
    dsimp only at h1 h2 h3 h4 h5 h6
    subst h5 h6
    have big : ∀ w : List Bool, ((mk (enc w)).cps.toList.all fun c => decide (c < 16 ^ 8)) = true := fun w => by
      rw [List.all_eq_true]
      intro c hc
      exact decide_eq_true (Nat.lt_trans (enc_lt w c hc) (by decide))
    have sz : ∀ w : List Bool, (mk (enc w)).cps.size = w.length := fun w => by
      show (enc w).toArray.size = _
      rw [List.size_toArray, enc_len]
    have z0 : (PyData.shown (.int 0)).length ≤ 8 := by decide +kernel
    refine ⟨?_, ?_, ?_, ?_⟩
    · simp [mfD, macD, rowD, mvD, PyData.showable, PyData.showableAll]
    · simp [mfD, macD, rowD, mvD, PyData.hasDict, PyData.hasDictAll]
    · simp [mfD, macD, rowD, mvD, PyData.depth, PyData.depthAll]
    · have fit := PyData.shown_fits (B := 8) (Nat.le_refl _) (by decide) (d := mfD (some (f, (w1, 0), (w2, 0), w3))) (by
        simp only [mfD, macD, rowD, mvD, List.map_cons, List.map_nil, PyData.leavesShort, PyData.leavesShortAll, big, Bool.and_true, Bool.true_and, Bool.and_self]
        simp [z0]) (by
        simp only [mfD, macD, rowD, mvD, List.map_cons, List.map_nil, PyData.weight, PyData.weightAll, sz]
        simp
        omega)
      rw [sizeLine_eq] at fit
      exact fit
  have no : Shows (mfD none) := ⟨rfl, rfl, Nat.zero_le _, by decide +kernel⟩
  unfold mfO
  cases endsF s l r (s.length + 2) 0 with
  | none => exact no
  | some e =>
    dsimp only
    split
    · obtain ⟨a, b, c, d, f⟩ := row e
      exact one (s.take (s.length - e), rowE s l r e) (by rw [List.length_take]; omega) a b c d f
    · exact no
theorem apart_mf (ws : List PyData) (h : ws.length = 3) (m : Option (List Bool × Row)) (more : List PyData) (hm : nodesL more = []) (hw : nodesL ws = []) : Apart (.list ws :: more) (mfD m) := by
  intro x hx
  simp only [nodesL, nodes, hm, hw, List.append_nil, List.mem_cons, List.not_mem_nil, or_false] at hx
  subst hx
  cases m with
  | none => simp [mfD, nodes]
  | some m =>
    simp only [mfD, macD, nodes, nodesL, List.map_cons, List.map_nil, rowD, mvD, List.append_nil, List.nil_append, List.mem_cons, List.not_mem_nil, or_false]
    intro e
    injection e with e
    rw [e] at h
    cases h
theorem nodes_Wd (ws : List (List Bool)) : nodesL (ws.map Wd) = [] := by
  induction ws with
  | nil => rfl
  | cons w ws ih => simp only [List.map_cons, nodesL, nodes, ih, List.append_nil]
theorem pl_law_right : PL_law_right F_law_right F_law_rows F_law_due F_machine_from := by
  intro ds q a _ h
  obtain ⟨d, n, rfl, hd, hn, hq⟩ := h
  refine seq_inv (fun ρ => ∃ (d' : PyData) (s l r : List Bool), s.length ≤ 200 ∧ l.length ≤ 200 ∧ r.length ≤ 200 ∧ ρ = [some (.own a d'), some (.val (.list [Wd s, Wd l, Wd r])), none, none, none]) (fun N hN => ?_) ?_
  · refine ⟨rfl, d, n, rfl, hd, by omega, fun ws d' hws hd' => ?_⟩
    obtain ⟨h1, h2⟩ := hws
    match ws, h1, h2 with
    | [s, l, r], _, h2 => exact hN _ ⟨d', s, l, r, h2 s (by simp), h2 l (by simp), h2 r (by simp), rfl⟩
  rintro ρ ⟨d', s, l, r, hs, hl, hr, rfl⟩
  have ap : ∀ (s l r : List Bool) (m : Option (List Bool × Row)) (more : List PyData), nodesL more = [] → Apart (.list [Wd s, Wd l, Wd r] :: more) (mfD m) := fun s l r m more hm => apart_mf [Wd s, Wd l, Wd r] rfl m more hm (nodes_Wd [s, l, r])
  refine seq_mid [some (.own a d'), some (.val (.list [Wd s, Wd l, Wd r])), some (.val (mfD (dueO s l r))), none, none] (fun N hN => ⟨rfl, s, l, r, rfl, by omega, by omega, by omega, ap s l r _ [] rfl, hN⟩) ?_
  refine seq_inv (fun ρ => ∃ p : Addr, ρ = [some (.own a d'), some (.val (.list [Wd s, Wd l, Wd r])), some (.val (mfD (dueO s l r))), some (.own p (.list [Wd s, Wd l, Wd r])), none]) (fun N hN p => hN _ ⟨p, rfl⟩) ?_
  rintro ρ ⟨p, rfl⟩
  have sh := shows_mf (s := s) (l := l) (r := r) (by omega) (by omega) (by omega)
  rw [due_eq] at sh
  refine seq_inv (fun ρ => ∃ c : Cell, (c = .val .none ∧ dueO s l r = none ∨ ∃ P m, c = .deep P (mfD (some m)) ∧ dueO s l r = some m) ∧ ρ = [some (.own a d'), some (.val (.list [Wd s, Wd l, Wd r])), some (.val (mfD (dueO s l r))), some (.own p (.list [Wd s, Wd l, Wd r])), some c]) (fun N hN => ⟨rfl, s, l, r, rfl, by omega, by omega, by omega, ap s l r _ [.int 1] rfl, ?_⟩) ?_
  · rw [due_eq]
    cases e : dueO s l r with
    | none =>
      rw [e] at hN
      exact hN _ ⟨_, .inl ⟨rfl, rfl⟩, rfl⟩
    | some m =>
      rw [e] at hN
      exact fun P => hN _ ⟨_, .inr ⟨P, m, rfl, rfl⟩, rfl⟩
  rintro ρ ⟨c, hc, rfl⟩
  have eqw : ∀ x : List Bool, PyData.eqv (.list [Wd x, Wd l, Wd r]) (.list [Wd x, Wd l, Wd r]) = true := fun x => by
    rw [show PyData.eqv (.list [Wd x, Wd l, Wd r]) (.list [Wd x, Wd l, Wd r]) = decide ([x, l, r] = [x, l, r]) from eqv_list [x, l, r] [x, l, r]]
    exact decide_eq_true rfl
  have sl3 := shaped_list [s, l, r]
  have same : ∀ x : Str, decide (x = x) = true := fun x => decide_eq_true rfl
  -- what is told is what is due; the told rows are changed
  refine seq_inv (fun ρ => ∃ c : Cell, (c = .val .none ∧ dueO s l r = none ∨ ∃ P m, c = .deep P (mfD (some m)) ∧ dueO s l r = some m) ∧ ρ = [some (.own a d'), some (.val (.list [Wd s, Wd l, Wd r])), some (.val (mfD (dueO s l r))), some (.own p (.list [Wd s, Wd l, Wd r])), some c]) (fun N hN => if_of false (fun K hK => ?_) (fun z => nomatch z) fun _ => hN _ ⟨c, hc, rfl⟩) ?_
  · rcases hc with ⟨rfl, e⟩ | ⟨P, m, rfl, e⟩
    · rw [e] at sh hK ⊢
      refine ⟨sh, sh, ?_⟩
      dsimp only [OV.rd, gEqS]
      rw [show PyData.none = mfD none from rfl, same]
      refine ⟨sl3, sl3, ?_⟩
      rw [eqw]
      exact hK
    · rw [e] at sh hK ⊢
      refine ⟨sh, sh, ?_⟩
      dsimp only [OV.rd, gEqS]
      rw [same]
      refine ⟨sl3, sl3, ?_⟩
      rw [eqw]
      exact hK
  clear hc
  rintro ρ ⟨c, hc, rfl⟩
  refine seq_inv (fun ρ => ∃ x4 : Option Cell, ρ = [some (.own a d'), some (.val (.list [Wd s, Wd l, Wd r])), some (.val (mfD (dueO s l r))), some (.own p (.list [Wd s, Wd l, Wd r])), x4]) (fun N hN => ?_) ?_
  · rcases hc with ⟨rfl, e⟩ | ⟨P, m, rfl, e⟩
    · exact if_of false (fun K hK => ⟨rfl, hK⟩) (fun z => nomatch z) fun _ => hN _ ⟨_, rfl⟩
    · exact if_of true (fun K hK => ⟨rfl, hK⟩) (fun _ => ⟨[rowD m.2], rfl, Nat.lt_of_sub_eq_succ rfl, rfl, hN _ ⟨_, rfl⟩⟩) fun z => nomatch z
  rintro ρ ⟨x4, rfl⟩
  refine seq_mid [some (.own a d'), some (.val (.list [Wd s, Wd l, Wd r])), some (.val (mfD (dueO s l r))), some (.own p (.list [Wd s, Wd l, Wd (r ++ [false])])), x4] (fun N hN => ⟨_, rfl, ?_, 2, rfl, ?_⟩) ?_
  · show (enc r).length + 1 ≤ _
    rw [enc_len]; omega
  · rw [← S_app] at hN
    exact hN
  have sh2 := shows_mf (s := s) (l := l) (r := r ++ [false]) (by omega) (by omega) (by rw [List.length_append, List.length_singleton]; omega)
  have lr2 : (r ++ [false]).length ≤ 1000 := by rw [List.length_append, List.length_singleton]; omega
  refine seq_mid _ (fun N hN => if_of false (fun K hK => ?_) (fun z => nomatch z) fun _ => hN) ?_
  · refine ⟨rfl, s, l, r ++ [false], rfl, by omega, by omega, lr2, ap s l (r ++ [false]) _ [.int 1] rfl, sh2, rfl, s, l, r ++ [false], rfl, by omega, by omega, lr2, ap s l (r ++ [false]) _ [] rfl, ?_⟩
    rw [due_eq] at sh2 ⊢
    refine ⟨sh2, ?_⟩
    dsimp only [OV.rd, gEqS]
    rw [same]
    exact hK
  refine seq_mid [some (.own a d'), some (.val (.list [Wd s, Wd l, Wd r])), some (.val (mfD (dueO s l r))), some (.own p (.list [Wd s, Wd l, Wd r])), x4] (fun N hN => ⟨_, rfl, 2, rfl, hN⟩) ?_
  have apk : Apart [.int 1, .list [Wd s, Wd l, Wd r]] (mfD (mfO s l r)) := fun x hx => ap s l r (mfO s l r) [] rfl x (by simpa [nodesL, nodes] using hx)
  refine ⟨rfl, s, l, r, rfl, by omega, by omega, by omega, apk, ?_⟩
  rw [due_eq]
  refine ⟨sh, sh, ?_⟩
  dsimp only [OV.rd, gEqS]
  rw [same]
  exact ⟨d', rfl, hq d'⟩
theorem pl_right (g s : Int) (q : PyData → PyData → Prop) (hg : 0 ≤ g) (hs : 0 ≤ s) (hs2 : s < 1000000000000000000000007) (h : ∀ e, q (.bool true) e) : F_law_right [.list [.int g, .int s, .int 0]] q :=
  ⟨_, 0, rfl, ⟨g, s, 0, rfl, hg, hs, hs2, by decide, by decide⟩, by decide, h⟩
end DL
set_option maxHeartbeats 0
namespace DL
open PySem PySem.Spec PyProof.Rows L2
/-! ### the head -/
def d_has_turns_alone : He.DefD := ⟨("has_turns_alone", none), "has_turns_alone", "has_turns_alone", defArgs s_has_turns_alone, defBody s_has_turns_alone, defScope s_has_turns_alone, [], []⟩
def d_check_road : He.DefD := ⟨("check_road", none), "check_road", "check_road", defArgs s_check_road, defBody s_check_road, defScope s_check_road, [], []⟩
def d_check_number : He.DefD := ⟨("check_number", none), "check_number", "check_number", defArgs s_check_number, defBody s_check_number, defScope s_check_number, [], []⟩
def d_is_move : He.DefD := ⟨("is_move", none), "is_move", "is_move", defArgs s_is_move, defBody s_is_move, defScope s_is_move, [], []⟩
def d_check_machine : He.DefD := ⟨("check_machine", none), "check_machine", "check_machine", defArgs s_check_machine, defBody s_check_machine, defScope s_check_machine, [], []⟩
def d_move_of : He.DefD := ⟨("move_of", none), "move_of", "move_of", defArgs s_move_of, defBody s_move_of, defScope s_move_of, [], []⟩
def d_walked_on : He.DefD := ⟨("walked_on", none), "walked_on", "walked_on", defArgs s_walked_on, defBody s_walked_on, defScope s_walked_on, [], []⟩
def d_run : He.DefD := ⟨("run", none), "run", "run", defArgs s_run, defBody s_run, defScope s_run, [], []⟩
def d_rests : He.DefD := ⟨("rests", none), "rests", "rests", defArgs s_rests, defBody s_rests, defScope s_rests, [], []⟩
def d_roads_to : He.DefD := ⟨("roads_to", none), "roads_to", "roads_to", defArgs s_roads_to, defBody s_roads_to, defScope s_roads_to, [], []⟩
def d_mark_of : He.DefD := ⟨("mark_of", none), "mark_of", "mark_of", defArgs s_mark_of, defBody s_mark_of, defScope s_mark_of, [], []⟩
def d_classes_of : He.DefD := ⟨("classes_of", none), "classes_of", "classes_of", defArgs s_classes_of, defBody s_classes_of, defScope s_classes_of, [], []⟩
def d_sure_of : He.DefD := ⟨("sure_of", none), "sure_of", "sure_of", defArgs s_sure_of, defBody s_sure_of, defScope s_sure_of, [], []⟩
def d_ends_of : He.DefD := ⟨("ends_of", none), "ends_of", "ends_of", defArgs s_ends_of, defBody s_ends_of, defScope s_ends_of, [], []⟩
def d_word_between : He.DefD := ⟨("word_between", none), "word_between", "word_between", defArgs s_word_between, defBody s_word_between, defScope s_word_between, [], []⟩
def d_machine_from : He.DefD := ⟨("machine_from", none), "machine_from", "machine_from", defArgs s_machine_from, defBody s_machine_from, defScope s_machine_from, [], []⟩
def d_law_coin : He.DefD := ⟨("_law_coin", none), "_law_coin", "_law_coin", defArgs s_law_coin, defBody s_law_coin, defScope s_law_coin, [], []⟩
def d_law_bk_way : He.DefD := ⟨("_law_bk_way", none), "_law_bk_way", "_law_bk_way", defArgs s_law_bk_way, defBody s_law_bk_way, defScope s_law_bk_way, [], []⟩
def d_law_bk_shape : He.DefD := ⟨("_law_bk_shape", none), "_law_bk_shape", "_law_bk_shape", defArgs s_law_bk_shape, defBody s_law_bk_shape, defScope s_law_bk_shape, [], []⟩
def d_law_bk_walk : He.DefD := ⟨("_law_bk_walk", none), "_law_bk_walk", "_law_bk_walk", defArgs s_law_bk_walk, defBody s_law_bk_walk, defScope s_law_bk_walk, [], []⟩
def d_law_bk_run : He.DefD := ⟨("_law_bk_run", none), "_law_bk_run", "_law_bk_run", defArgs s_law_bk_run, defBody s_law_bk_run, defScope s_law_bk_run, [], []⟩
def d_law_due : He.DefD := ⟨("_law_due", none), "_law_due", "_law_due", defArgs s_law_due, defBody s_law_due, defScope s_law_due, [], []⟩
def d_law_rows : He.DefD := ⟨("_law_rows", none), "_law_rows", "_law_rows", defArgs s_law_rows, defBody s_law_rows, defScope s_law_rows, [], []⟩
def d_law_right : He.DefD := ⟨("_law_right", none), "_law_right", "_law_right", defArgs s_law_right, defBody s_law_right, defScope s_law_right, [], []⟩
def d_law_purse : He.DefD := ⟨("_law_purse", none), "_law_purse", "_law_purse", defArgs s_law_purse, defBody s_law_purse, defScope s_law_purse, [], []⟩
def d_law : He.DefD := ⟨("law", none), "law", "law", defArgs s_law, defBody s_law, defScope s_law, [], []⟩
def fnL : List He.DefD := [d_has_turns_alone, d_check_road, d_check_number, d_is_move, d_check_machine, d_move_of, d_walked_on, d_run, d_rests, d_roads_to, d_mark_of, d_classes_of, d_sure_of, d_ends_of, d_word_between, d_machine_from, d_law_coin, d_law_bk_way, d_law_bk_shape, d_law_bk_walk, d_law_bk_run, d_law_due, d_law_rows, d_law_right, d_law_purse, d_law]
def faL : List He.Fa := [.glo "has_turns_alone", .glo "check_road", .glo "check_number", .glo "is_move", .glo "check_machine", .glo "move_of", .glo "walked_on", .glo "run", .glo "rests", .glo "roads_to", .glo "mark_of", .glo "classes_of", .glo "sure_of", .glo "ends_of", .glo "word_between", .glo "machine_from", .glo "_law_coin", .glo "_law_bk_way", .glo "_law_bk_shape", .glo "_law_bk_walk", .glo "_law_bk_run", .glo "_law_due", .glo "_law_rows", .glo "_law_right", .glo "_law_purse", .glo "law", .free "all", .free "len", .free "min", .free "range", .free "enumerate", .free "dict", .free "zip", .free "list", .free "int", .free "repr", .free "max", .free "abs", .str "TURNS" (mk [76, 82])]
abbrev RowL : PySem.W.OpenRow := PySem.W.OpenLaw.row PySem.Challenge.rw_leftroads_k83_machines_of_one_state
def loose0 : List PySem.Str := ["RoadError", "InvalidRoad", "InvalidMachine", "InvalidNumber", "TURNS", "has_turns_alone", "check_road", "check_number", "is_move", "check_machine", "move_of", "walked_on", "run", "rests", "roads_to", "mark_of", "classes_of", "sure_of", "ends_of", "word_between", "machine_from", "_law_purse", "_law_coin", "_law_bk_way", "_law_bk_shape", "_law_bk_walk", "_law_bk_run", "_law_due", "_law_rows", "_law_right"]
def looseL : List PySem.Str := loose0
abbrev hkL : PySem.W.Hook := He.hookD 4 faL fnL
def obL (s : PySem.W.SharedT) : He.AlD := He.obsDG 4 faL fnL (HandSHeadRun.getT s)
theorem obL_eq (s : PySem.W.SharedT) : obL s = hkL.obs s.abs := He.obsDG_eq (HandSHeadRun.getT_eq s)
theorem runL (w : World) : HandSHeadRun.RunEq RowL (PySem.W.view RowL.prog [37]) hkL obL 3000 looseL w := by
  intro os
  kernel_rfl
theorem factsL {P : Program} {w : World} {K : PySem.W.Frag} {h : Heap} {mg : Str → Option Value} {f : Addr} (X : K.In h) (G : h.Ns mainGlobals mg) (hfa : mg ("law" : Str) = some (.ref f)) (c : He.SaysD faL fnL K) :
    ∃ fd : FuncData, (∀ (s : Shared) (v : Value), BindsTo s fd ⟨[v], []⟩ [("script", v)]) ∧ ∀ base : Heap, K.In base → base.Ns mainGlobals mg → FnG P w K mg base 7 f fd ["script"] (spLaw K) := by
  obtain ⟨fd_has_turns_alone, Fn_has_turns_alone⟩ := c.def_ 0 (d := d_has_turns_alone) rfl
  have m_has_turns_alone := He.glo_ok X G (c.fact 0 (f := .glo "has_turns_alone") rfl)
  obtain ⟨fd_check_road, Fn_check_road⟩ := c.def_ 1 (d := d_check_road) rfl
  have m_check_road := He.glo_ok X G (c.fact 1 (f := .glo "check_road") rfl)
  obtain ⟨fd_check_number, Fn_check_number⟩ := c.def_ 2 (d := d_check_number) rfl
  have m_check_number := He.glo_ok X G (c.fact 2 (f := .glo "check_number") rfl)
  obtain ⟨fd_is_move, Fn_is_move⟩ := c.def_ 3 (d := d_is_move) rfl
  have m_is_move := He.glo_ok X G (c.fact 3 (f := .glo "is_move") rfl)
  obtain ⟨fd_check_machine, Fn_check_machine⟩ := c.def_ 4 (d := d_check_machine) rfl
  have m_check_machine := He.glo_ok X G (c.fact 4 (f := .glo "check_machine") rfl)
  obtain ⟨fd_move_of, Fn_move_of⟩ := c.def_ 5 (d := d_move_of) rfl
  have m_move_of := He.glo_ok X G (c.fact 5 (f := .glo "move_of") rfl)
  obtain ⟨fd_walked_on, Fn_walked_on⟩ := c.def_ 6 (d := d_walked_on) rfl
  have m_walked_on := He.glo_ok X G (c.fact 6 (f := .glo "walked_on") rfl)
  obtain ⟨fd_run, Fn_run⟩ := c.def_ 7 (d := d_run) rfl
  have m_run := He.glo_ok X G (c.fact 7 (f := .glo "run") rfl)
  obtain ⟨fd_rests, Fn_rests⟩ := c.def_ 8 (d := d_rests) rfl
  have m_rests := He.glo_ok X G (c.fact 8 (f := .glo "rests") rfl)
  obtain ⟨fd_roads_to, Fn_roads_to⟩ := c.def_ 9 (d := d_roads_to) rfl
  have m_roads_to := He.glo_ok X G (c.fact 9 (f := .glo "roads_to") rfl)
  obtain ⟨fd_mark_of, Fn_mark_of⟩ := c.def_ 10 (d := d_mark_of) rfl
  have m_mark_of := He.glo_ok X G (c.fact 10 (f := .glo "mark_of") rfl)
  obtain ⟨fd_classes_of, Fn_classes_of⟩ := c.def_ 11 (d := d_classes_of) rfl
  have m_classes_of := He.glo_ok X G (c.fact 11 (f := .glo "classes_of") rfl)
  obtain ⟨fd_sure_of, Fn_sure_of⟩ := c.def_ 12 (d := d_sure_of) rfl
  have m_sure_of := He.glo_ok X G (c.fact 12 (f := .glo "sure_of") rfl)
  obtain ⟨fd_ends_of, Fn_ends_of⟩ := c.def_ 13 (d := d_ends_of) rfl
  have m_ends_of := He.glo_ok X G (c.fact 13 (f := .glo "ends_of") rfl)
  obtain ⟨fd_word_between, Fn_word_between⟩ := c.def_ 14 (d := d_word_between) rfl
  have m_word_between := He.glo_ok X G (c.fact 14 (f := .glo "word_between") rfl)
  obtain ⟨fd_machine_from, Fn_machine_from⟩ := c.def_ 15 (d := d_machine_from) rfl
  have m_machine_from := He.glo_ok X G (c.fact 15 (f := .glo "machine_from") rfl)
  obtain ⟨fd_law_coin, Fn_law_coin⟩ := c.def_ 16 (d := d_law_coin) rfl
  have m_law_coin := He.glo_ok X G (c.fact 16 (f := .glo "_law_coin") rfl)
  obtain ⟨fd_law_bk_way, Fn_law_bk_way⟩ := c.def_ 17 (d := d_law_bk_way) rfl
  have m_law_bk_way := He.glo_ok X G (c.fact 17 (f := .glo "_law_bk_way") rfl)
  obtain ⟨fd_law_bk_shape, Fn_law_bk_shape⟩ := c.def_ 18 (d := d_law_bk_shape) rfl
  have m_law_bk_shape := He.glo_ok X G (c.fact 18 (f := .glo "_law_bk_shape") rfl)
  obtain ⟨fd_law_bk_walk, Fn_law_bk_walk⟩ := c.def_ 19 (d := d_law_bk_walk) rfl
  have m_law_bk_walk := He.glo_ok X G (c.fact 19 (f := .glo "_law_bk_walk") rfl)
  obtain ⟨fd_law_bk_run, Fn_law_bk_run⟩ := c.def_ 20 (d := d_law_bk_run) rfl
  have m_law_bk_run := He.glo_ok X G (c.fact 20 (f := .glo "_law_bk_run") rfl)
  obtain ⟨fd_law_due, Fn_law_due⟩ := c.def_ 21 (d := d_law_due) rfl
  have m_law_due := He.glo_ok X G (c.fact 21 (f := .glo "_law_due") rfl)
  obtain ⟨fd_law_rows, Fn_law_rows⟩ := c.def_ 22 (d := d_law_rows) rfl
  have m_law_rows := He.glo_ok X G (c.fact 22 (f := .glo "_law_rows") rfl)
  obtain ⟨fd_law_right, Fn_law_right⟩ := c.def_ 23 (d := d_law_right) rfl
  have m_law_right := He.glo_ok X G (c.fact 23 (f := .glo "_law_right") rfl)
  obtain ⟨fd_law_purse, Fn_law_purse⟩ := c.def_ 24 (d := d_law_purse) rfl
  have m_law_purse := He.glo_ok X G (c.fact 24 (f := .glo "_law_purse") rfl)
  obtain ⟨fd_law, Fn_law⟩ := c.def_ 25 (d := d_law) rfl
  have e := hfa.symm.trans (He.glo_ok X G (c.fact 25 (f := .glo "law") rfl))
  cases e
  have b_all := He.free_ok X G (c.fact 26 (f := .free "all") rfl)
  have b_len := He.free_ok X G (c.fact 27 (f := .free "len") rfl)
  have b_min := He.free_ok X G (c.fact 28 (f := .free "min") rfl)
  have b_range := He.free_ok X G (c.fact 29 (f := .free "range") rfl)
  have b_enumerate := He.free_ok X G (c.fact 30 (f := .free "enumerate") rfl)
  have b_dict := He.free_ok X G (c.fact 31 (f := .free "dict") rfl)
  have b_zip := He.free_ok X G (c.fact 32 (f := .free "zip") rfl)
  have b_list := He.free_ok X G (c.fact 33 (f := .free "list") rfl)
  have b_int := He.free_ok X G (c.fact 34 (f := .free "int") rfl)
  have b_repr := He.free_ok X G (c.fact 35 (f := .free "repr") rfl)
  have b_max := He.free_ok X G (c.fact 36 (f := .free "max") rfl)
  have b_abs := He.free_ok X G (c.fact 37 (f := .free "abs") rfl)
  have c_TURNS := He.str_ok X G (c.fact 38 (f := .str "TURNS" (mk [76, 82])) rfl)
  have bd_has_turns_alone : L2.Binds K fd_has_turns_alone ["word"] [] := Fn_has_turns_alone.bindsN fun _ _ _ _ _ _ us hl => match us, hl with | [_], _ => rfl
  have bd_check_road : L2.Binds K fd_check_road ["road"] [] := Fn_check_road.bindsN fun _ _ _ _ _ _ us hl => match us, hl with | [_], _ => rfl
  have bd_check_number : L2.Binds K fd_check_number ["number", "least"] [] := Fn_check_number.bindsN fun _ _ _ _ _ _ us hl => match us, hl with | [_, _], _ => rfl
  have bd_is_move : L2.Binds K fd_is_move ["move", "many"] [] := Fn_is_move.bindsN fun _ _ _ _ _ _ us hl => match us, hl with | [_, _], _ => rfl
  have bd_check_machine : L2.Binds K fd_check_machine ["machine"] [] := Fn_check_machine.bindsN fun _ _ _ _ _ _ us hl => match us, hl with | [_], _ => rfl
  have bd_move_of : L2.Binds K fd_move_of ["rows", "state", "turn"] [] := Fn_move_of.bindsN fun _ _ _ _ _ _ us hl => match us, hl with | [_, _, _], _ => rfl
  have bd_walked_on : L2.Binds K fd_walked_on ["rows", "state", "road"] [] := Fn_walked_on.bindsN fun _ _ _ _ _ _ us hl => match us, hl with | [_, _, _], _ => rfl
  have bd_run : L2.Binds K fd_run ["machine", "road"] [] := Fn_run.bindsN fun _ _ _ _ _ _ us hl => match us, hl with | [_, _], _ => rfl
  have bd_rests : L2.Binds K fd_rests ["texts"] [] := Fn_rests.bindsN fun _ _ _ _ _ _ us hl => match us, hl with | [_], _ => rfl
  have bd_roads_to : L2.Binds K fd_roads_to ["length"] [] := Fn_roads_to.bindsN fun _ _ _ _ _ _ us hl => match us, hl with | [_], _ => rfl
  have bd_mark_of : L2.Binds K fd_mark_of ["table", "road", "later"] [] := Fn_mark_of.bindsN fun _ _ _ _ _ _ us hl => match us, hl with | [_, _, _], _ => rfl
  have bd_classes_of : L2.Binds K fd_classes_of ["table", "most"] [] := Fn_classes_of.bindsN fun _ _ _ _ _ _ us hl => match us, hl with | [_, _], _ => rfl
  have bd_sure_of : L2.Binds K fd_sure_of ["table", "road", "pair", "ends"] [] := Fn_sure_of.bindsN fun _ _ _ _ _ _ us hl => match us, hl with | [_, _, _, _], _ => rfl
  have bd_ends_of : L2.Binds K fd_ends_of ["table", "roads", "moves"] [] := Fn_ends_of.bindsN fun _ _ _ _ _ _ us hl => match us, hl with | [_, _, _], _ => rfl
  have bd_word_between : L2.Binds K fd_word_between ["table", "road", "turn", "end", "later_end"] [] := Fn_word_between.bindsN fun _ _ _ _ _ _ us hl => match us, hl with | [_, _, _, _, _], _ => rfl
  have bd_machine_from : L2.Binds K fd_machine_from ["words", "most"] [] := Fn_machine_from.bindsN fun _ _ _ _ _ _ us hl => match us, hl with | [_, _], _ => rfl
  have bd_law_coin : L2.Binds K fd_law_coin ["purse", "many"] [] := Fn_law_coin.bindsN fun _ _ _ _ _ _ us hl => match us, hl with | [_, _], _ => rfl
  have bd_law_bk_way : L2.Binds K fd_law_bk_way ["purse", "top"] [] := Fn_law_bk_way.bindsN fun _ _ _ _ _ _ us hl => match us, hl with | [_, _], _ => rfl
  have bd_law_bk_shape : L2.Binds K fd_law_bk_shape ["purse", "many", "top"] [] := Fn_law_bk_shape.bindsN fun _ _ _ _ _ _ us hl => match us, hl with | [_, _, _], _ => rfl
  have bd_law_bk_walk : L2.Binds K fd_law_bk_walk ["shape", "way"] [] := Fn_law_bk_walk.bindsN fun _ _ _ _ _ _ us hl => match us, hl with | [_, _], _ => rfl
  have bd_law_bk_run : L2.Binds K fd_law_bk_run ["shape", "way"] [] := Fn_law_bk_run.bindsN fun _ _ _ _ _ _ us hl => match us, hl with | [_, _], _ => rfl
  have bd_law_due : L2.Binds K fd_law_due ["rows"] [] := Fn_law_due.bindsN fun _ _ _ _ _ _ us hl => match us, hl with | [_], _ => rfl
  have bd_law_rows : L2.Binds K fd_law_rows ["purse"] [] := Fn_law_rows.bindsN fun _ _ _ _ _ _ us hl => match us, hl with | [_], _ => rfl
  have bd_law_right : L2.Binds K fd_law_right ["purse"] [] := Fn_law_right.bindsN fun _ _ _ _ _ _ us hl => match us, hl with | [_], _ => rfl
  have bd_law_purse : L2.Binds K fd_law_purse ["script", "place"] [] := Fn_law_purse.bindsN fun _ _ _ _ _ _ us hl => match us, hl with | [_, _], _ => rfl
  have b := FunD.bindsA (ps := ["script"]) Fn_law fun _ _ _ _ _ _ us hl => match us, hl with | [_], _ => rfl
  refine ⟨fd_law, fun s v => b s [v] rfl, fun base _ _ => ?_⟩
  have k_has_turns_alone : Know P w K mg base "has_turns_alone" 1 ["word"] false 1 F_has_turns_alone := ⟨_, _, m_has_turns_alone, Fn_has_turns_alone.kp, bd_has_turns_alone, ok_has_turns_alone Fn_has_turns_alone b_all c_TURNS pl_has_turns_alone⟩
  have k_check_road : Know P w K mg base "check_road" 2 ["road"] false 1 F_check_road := ⟨_, _, m_check_road, Fn_check_road.kp, bd_check_road, ok_check_road Fn_check_road k_has_turns_alone pl_check_road⟩
  have k_check_number : Know P w K mg base "check_number" 1 ["number", "least"] false 2 F_check_number := ⟨_, _, m_check_number, Fn_check_number.kp, bd_check_number, ok_check_number Fn_check_number pl_check_number⟩
  have k_is_move : Know P w K mg base "is_move" 2 ["move", "many"] false 2 F_is_move := ⟨_, _, m_is_move, Fn_is_move.kp, bd_is_move, ok_is_move Fn_is_move k_has_turns_alone pl_is_move⟩
  have k_check_machine : Know P w K mg base "check_machine" 3 ["machine"] false 1 F_check_machine := ⟨_, _, m_check_machine, Fn_check_machine.kp, bd_check_machine, ok_check_machine Fn_check_machine k_has_turns_alone k_is_move b_len pl_check_machine⟩
  have k_move_of : Know P w K mg base "move_of" 1 ["rows", "state", "turn"] false 3 F_move_of := ⟨_, _, m_move_of, Fn_move_of.kp, bd_move_of, ok_move_of Fn_move_of pl_move_of⟩
  have k_walked_on : Know P w K mg base "walked_on" 2 ["rows", "state", "road"] false 3 F_walked_on := ⟨_, _, m_walked_on, Fn_walked_on.kp, bd_walked_on, ok_walked_on Fn_walked_on k_move_of pl_walked_on⟩
  have k_run : Know P w K mg base "run" 4 ["machine", "road"] false 2 F_run := ⟨_, _, m_run, Fn_run.kp, bd_run, ok_run Fn_run k_check_machine k_check_road k_walked_on pl_run⟩
  have k_rests : Know P w K mg base "rests" 1 ["texts"] false 1 F_rests := ⟨_, _, m_rests, Fn_rests.kp, bd_rests, ok_rests Fn_rests b_min b_len pl_rests⟩
  have k_roads_to : Know P w K mg base "roads_to" 1 ["length"] false 1 F_roads_to := ⟨_, _, m_roads_to, Fn_roads_to.kp, bd_roads_to, ok_roads_to Fn_roads_to b_len pl_roads_to⟩
  have k_mark_of : Know P w K mg base "mark_of" 2 ["table", "road", "later"] false 3 F_mark_of := ⟨_, _, m_mark_of, Fn_mark_of.kp, bd_mark_of, ok_mark_of Fn_mark_of k_rests pl_mark_of⟩
  have k_classes_of : Know P w K mg base "classes_of" 3 ["table", "most"] false 2 F_classes_of := ⟨_, _, m_classes_of, Fn_classes_of.kp, bd_classes_of, ok_classes_of Fn_classes_of k_roads_to k_mark_of b_len pl_classes_of⟩
  have k_sure_of : Know P w K mg base "sure_of" 2 ["table", "road", "pair", "ends"] false 4 F_sure_of := ⟨_, _, m_sure_of, Fn_sure_of.kp, bd_sure_of, ok_sure_of Fn_sure_of k_rests b_range b_len pl_sure_of⟩
  have k_ends_of : Know P w K mg base "ends_of" 3 ["table", "roads", "moves"] false 3 F_ends_of := ⟨_, _, m_ends_of, Fn_ends_of.kp, bd_ends_of, ok_ends_of Fn_ends_of k_sure_of b_enumerate b_len pl_ends_of⟩
  have k_word_between : Know P w K mg base "word_between" 1 ["table", "road", "turn", "end", "later_end"] false 5 F_word_between := ⟨_, _, m_word_between, Fn_word_between.kp, bd_word_between, ok_word_between Fn_word_between b_len pl_word_between⟩
  have k_machine_from : Know P w K mg base "machine_from" 5 ["words", "most"] false 2 F_machine_from := ⟨_, _, m_machine_from, Fn_machine_from.kp, bd_machine_from, ok_machine_from Fn_machine_from k_check_number k_check_road k_roads_to k_classes_of k_ends_of k_word_between k_run b_len b_dict b_zip b_range b_list pl_machine_from⟩
  have kk_machine_from : KnowK P w K mg base "machine_from" 5 "words" "most" F_machine_from := ⟨_, _, m_machine_from, Fn_machine_from.kp, bd_machine_from, ok_machine_from Fn_machine_from k_check_number k_check_road k_roads_to k_classes_of k_ends_of k_word_between k_run b_len b_dict b_zip b_range b_list pl_machine_from, kbinds2 Fn_machine_from fun _ _ _ _ _ _ _ _ => rfl⟩
  have k_law_coin : Know P w K mg base "_law_coin" 1 ["purse", "many"] true 2 F_law_coin := ⟨_, _, m_law_coin, Fn_law_coin.kp, bd_law_coin, ok_law_coin Fn_law_coin b_int pl_law_coin⟩
  have k_law_bk_way : Know P w K mg base "_law_bk_way" 2 ["purse", "top"] true 2 F_law_bk_way := ⟨_, _, m_law_bk_way, Fn_law_bk_way.kp, bd_law_bk_way, ok_law_bk_way Fn_law_bk_way k_law_coin b_range pl_law_bk_way⟩
  have k_law_bk_shape : Know P w K mg base "_law_bk_shape" 3 ["purse", "many", "top"] true 3 F_law_bk_shape := ⟨_, _, m_law_bk_shape, Fn_law_bk_shape.kp, bd_law_bk_shape, ok_law_bk_shape Fn_law_bk_shape k_law_bk_way k_law_coin b_range pl_law_bk_shape⟩
  have k_law_bk_walk : Know P w K mg base "_law_bk_walk" 1 ["shape", "way"] false 2 F_law_bk_walk := ⟨_, _, m_law_bk_walk, Fn_law_bk_walk.kp, bd_law_bk_walk, ok_law_bk_walk Fn_law_bk_walk pl_law_bk_walk⟩
  have k_law_bk_run : Know P w K mg base "_law_bk_run" 2 ["shape", "way"] false 2 F_law_bk_run := ⟨_, _, m_law_bk_run, Fn_law_bk_run.kp, bd_law_bk_run, ok_law_bk_run Fn_law_bk_run k_law_bk_walk pl_law_bk_run⟩
  have k_law_due : Know P w K mg base "_law_due" 1 ["rows"] false 1 F_law_due := ⟨_, _, m_law_due, Fn_law_due.kp, bd_law_due, ok_law_due Fn_law_due b_range b_len pl_law_due⟩
  have k_law_rows : Know P w K mg base "_law_rows" 4 ["purse"] true 1 F_law_rows := ⟨_, _, m_law_rows, Fn_law_rows.kp, bd_law_rows, ok_law_rows Fn_law_rows k_law_bk_shape k_law_coin k_law_bk_run k_law_bk_way b_range b_len pl_law_rows⟩
  have k_law_right : KnowG P w K mg base "_law_right" 6 ["purse"] true 1 F_law_right := ⟨_, _, m_law_right, Fn_law_right.kp, bd_law_right, ok_law_right Fn_law_right k_law_rows k_law_due kk_machine_from b_list b_repr pl_law_right⟩
  exact ok_law Fn_law b_len b_max b_min b_range m_law_purse Fn_law_purse.kp bd_law_purse (ok_law_purse Fn_law_purse b_len b_max b_abs b_int) k_law_right pl_right
end DL
open PySem PySem.W PySem.Calls PyProof.Rows
theorem PySem.Challenge.cw_leftroads_k83_machines_of_one_state_holds : PySem.Challenge.rw_leftroads_k83_machines_of_one_state.Holds := by
  w_on; o_law
  refine HandSHeadRun.head_any (r := OpenLaw.row PySem.Challenge.rw_leftroads_k83_machines_of_one_state) (q := view (OpenLaw.row PySem.Challenge.rw_leftroads_k83_machines_of_one_state).prog [37]) (H := DL.hkL) (ob := DL.obL) (M := 3000) (loose := DL.looseL) (d := HandSHeadRun.topDef (OpenLaw.row PySem.Challenge.rw_leftroads_k83_machines_of_one_state).prog 37) (kwd := []) DL.obL_eq
    (by kernel_rfl) (fun s => by kernel_rfl) DL.runL (by kernel_rfl) (by kernel_rfl) (by kernel_rfl) (by rfl) (by first | assumption | decide +kernel) (by decide +kernel) ⟨rfl, rfl, rfl, rfl, rfl, by decide +kernel⟩ ?hw ?hc
  case hw => w_witness2
  case hc =>
    refine DL.walk_ofG (l := PySem.Challenge.rw_leftroads_k83_machines_of_one_state) (n := 63) (k := 7) (x := "script") rfl (by decide) (by kernel_rfl) ⟨rfl, by decide, by decide⟩ fun w mg fa h Y G hmg0 => ?_
    obtain ⟨K, KX, c⟩ := Y
    have hmg : mg ("law" : PySem.Str) = some (.ref fa) := by
      have e : (HandSHeadRun.topDef (OpenLaw.row PySem.Challenge.rw_leftroads_k83_machines_of_one_state).prog 37).name = ("law" : PySem.Str) := by kernel_rfl
      rw [← e]
      exact hmg0
    obtain ⟨fd, hb, hF⟩ := DL.factsL (P := (PySem.Challenge.rw_leftroads_k83_machines_of_one_state).prog) (w := w) KX G hmg c
    exact ⟨K, fd, DL.spLaw K, KX, hb, fun H a ns hl _ hS => ⟨a, ns, rfl, hS, hl, fun _ => rfl⟩, hF⟩
