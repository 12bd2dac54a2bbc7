import PyProof.Rows.All
import Wide.All
import OpenK.AllK
import Wide.FinOn
import HandS.ForMost
import HandS.Defaults
import HandS.Wide
import HandS.Flow
import HandS.WordsDict
import HandS.TupAny
import HandS.Style
import HandS.Replace
import KE.KDictZip
import KE.GoesNew
import HandS.Ends
import KE.KRevIter
import HandS.Rev
import HandS.IsInst
import PyProof.Rows.StrRev
import KE.KRevSl
import KE.KDictDisplayH
import HandS.DictTup
import PyProof.Rows.StrMul
import HandS.Head0
import HandS.Head1
import HandS.Head2
import HandS.HeadEnd
import HandS.HeadHook1
import HandS.HeadHook2
import PySem.Challenge.RW_leftroads_k81_tables_of_machines
set_option Elab.async false
set_option linter.all false
set_option maxRecDepth 100000
set_option maxHeartbeats 8000000
namespace DL
open PySem PySem.Spec PyProof.Rows L2

/-! ### data in the heap -/
/-- a key as data -/
def kD : Key → PyData
  | .inl i => .int i
  | .inr x => .str x
/-- the key of a dict whose keys are tuples -/
def kTD (ks : List Key) : PyData := .tuple (ks.map kD)
def isTup : HO → Bool
  | .tup _ => true
  | _ => false

mutual
/-- v tells d in H; no list and no dict of it stands where O holds -/
inductive Is (O : Addr → Prop) (H : Hp) : V → PyData → Prop
  | non : Is O H .non .none
  | bl (b : Bool) : Is O H (.bl b) (.bool b)
  | int (i : Int) : Is O H (.int i) (.int i)
  | str (x : Str) : Is O H (.str x) (.str x)
  | lst {a : Addr} {xs : List V} {ds : List PyData} : ¬ O a → H a = some (.lst xs) → IsAll O H xs ds → Is O H (.ref a) (.list ds)
  | tup {a : Addr} {xs : List V} {ds : List PyData} : H a = some (.tup xs) → IsAll O H xs ds → Is O H (.ref a) (.tuple ds)
  | dK {a : Addr} {kvs : List (Key × V)} {es : List (PyData × PyData)} : ¬ O a → Rd H a (.dK kvs) → IsK O H kvs es → Is O H (.ref a) (.dict es)
  | dT {a : Addr} {kvs : List (List Key × V)} {es : List (PyData × PyData)} : ¬ O a → Rd H a (.dT kvs) → IsT O H kvs es → Is O H (.ref a) (.dict ((.none, .none) :: es))
inductive IsAll (O : Addr → Prop) (H : Hp) : List V → List PyData → Prop
  | nil : IsAll O H [] []
  | cons {v : V} {vs : List V} {d : PyData} {ds : List PyData} : Is O H v d → IsAll O H vs ds → IsAll O H (v :: vs) (d :: ds)
inductive IsK (O : Addr → Prop) (H : Hp) : List (Key × V) → List (PyData × PyData) → Prop
  | nilK : IsK O H [] []
  | consK {k : Key} {v : V} {vs : List (Key × V)} {d : PyData} {ds : List (PyData × PyData)} : Is O H v d → IsK O H vs ds → IsK O H ((k, v) :: vs) ((kD k, d) :: ds)
inductive IsT (O : Addr → Prop) (H : Hp) : List (List Key × V) → List (PyData × PyData) → Prop
  | nilT : IsT O H [] []
  | consT {k : List Key} {v : V} {vs : List (List Key × V)} {d : PyData} {ds : List (PyData × PyData)} : Is O H v d → IsT O H vs ds → IsT O H ((k, v) :: vs) ((kTD k, d) :: ds)
end

/-- from one state to a later one: nothing is written but at O; what stood outside O stays outside -/
def Adv (O O' : Addr → Prop) (H H' : Hp) : Prop :=
  (∀ b o, H b = some o → (¬ O b ∨ isTup o = true) → H' b = some o) ∧ ∀ b o, H b = some o → ¬ O b → ¬ O' b
theorem Adv.refl {O : Addr → Prop} {H : Hp} : Adv O O H H := ⟨fun _ _ h _ => h, fun _ _ _ h => h⟩
theorem Adv.trans {O O' O'' : Addr → Prop} {H H' H'' : Hp} (a : Adv O O' H H') (b : Adv O' O'' H' H'') : Adv O O'' H H'' := by
  refine ⟨fun c o h k => ?_, fun c o h k => b.2 c o (a.1 c o h (.inl k)) (a.2 c o h k)⟩
  rcases k with k | k
  · exact b.1 c o (a.1 c o h (.inl k)) (.inl (a.2 c o h k))
  · exact b.1 c o (a.1 c o h (.inr k)) (.inr k)
theorem Adv.sub {O O' : Addr → Prop} {H : Hp} (h : ∀ a, O' a → O a) : Adv O O' H H := ⟨fun _ _ h _ => h, fun _ _ _ k z => k (h _ z)⟩
theorem Adv.rd {O O' : Addr → Prop} {H H' : Hp} (m : Adv O O' H H') {a : Addr} {u : HO} (n : ¬ O a) (r : Rd H a u) : ¬ O' a ∧ Rd H' a u := by
  rcases r with r | ⟨o, r⟩
  · exact ⟨m.2 _ _ r n, .inl (m.1 _ _ r (.inl n))⟩
  · exact ⟨m.2 _ _ r n, .inr ⟨o, m.1 _ _ r (.inl n)⟩⟩

theorem Is.mono {O O' : Addr → Prop} {H H' : Hp} (m : Adv O O' H H') {v : V} {d : PyData} (h : Is O H v d) : Is O' H' v d := by
  induction h using Is.rec (motive_2 := fun xs ds _ => IsAll O' H' xs ds) (motive_3 := fun xs ds _ => IsK O' H' xs ds) (motive_4 := fun xs ds _ => IsT O' H' xs ds) with
  | non => exact .non
  | bl b => exact .bl b
  | int i => exact .int i
  | str x => exact .str x
  | lst n r _ ih => exact .lst (m.2 _ _ r n) (m.1 _ _ r (.inl n)) ih
  | tup r _ ih => exact .tup (m.1 _ _ r (.inr rfl)) ih
  | dK n r _ ih => exact .dK (m.rd n r).1 (m.rd n r).2 ih
  | dT n r _ ih => exact .dT (m.rd n r).1 (m.rd n r).2 ih
  | nil => exact .nil
  | cons _ _ h1 h2 => exact .cons h1 h2
  | nilK => exact .nilK
  | consK _ _ h1 h2 => exact .consK h1 h2
  | nilT => exact .nilT
  | consT _ _ h1 h2 => exact .consT h1 h2
theorem IsAll.mono {O O' : Addr → Prop} {H H' : Hp} (m : Adv O O' H H') : ∀ {vs : List V} {ds : List PyData}, IsAll O H vs ds → IsAll O' H' vs ds
  | _, _, .nil => .nil
  | _, _, .cons h t => .cons (h.mono m) (IsAll.mono m t)
theorem IsK.mono {O O' : Addr → Prop} {H H' : Hp} (m : Adv O O' H H') : ∀ {vs : List (Key × V)} {ds : List (PyData × PyData)}, IsK O H vs ds → IsK O' H' vs ds
  | _, _, .nilK => .nilK
  | _, _, .consK h t => .consK (h.mono m) (IsK.mono m t)
theorem IsT.mono {O O' : Addr → Prop} {H H' : Hp} (m : Adv O O' H H') : ∀ {vs : List (List Key × V)} {ds : List (PyData × PyData)}, IsT O H vs ds → IsT O' H' vs ds
  | _, _, .nilT => .nilT
  | _, _, .consT h t => .consT (h.mono m) (IsT.mono m t)
theorem IsAll.length {O : Addr → Prop} {H : Hp} : ∀ {vs : List V} {ds : List PyData}, IsAll O H vs ds → vs.length = ds.length
  | _, _, .nil => rfl
  | _, _, .cons _ t => congrArg Nat.succ (IsAll.length t)
theorem IsAll.get {O : Addr → Prop} {H : Hp} : ∀ {vs : List V} {ds : List PyData} {i : Nat} {d : PyData}, IsAll O H vs ds → ds[i]? = some d → ∃ v, vs[i]? = some v ∧ Is O H v d
  | _, _, _, _, .nil, e => by simp at e
  | _, _, 0, _, .cons r _, e => by simp at e; subst e; exact ⟨_, rfl, r⟩
  | _, _, i + 1, d, .cons _ t, e => by
    obtain ⟨u, h1, h2⟩ := IsAll.get (i := i) (d := d) t (by simpa using e)
    exact ⟨u, by simpa using h1, h2⟩
theorem IsAll.append {O : Addr → Prop} {H : Hp} : ∀ {xs ys : List V} {ds es : List PyData}, IsAll O H xs ds → IsAll O H ys es → IsAll O H (xs ++ ys) (ds ++ es)
  | _, _, _, _, .nil, s => s
  | _, _, _, _, .cons r t, s => .cons r (IsAll.append t s)
theorem IsAll.set {O : Addr → Prop} {H : Hp} {v : V} {d : PyData} (h : Is O H v d) : ∀ {xs : List V} {ds : List PyData} (i : Nat), IsAll O H xs ds → IsAll O H (xs.set i v) (ds.set i d)
  | _, _, _, .nil => .nil
  | _, _, 0, .cons _ t => .cons h t
  | _, _, i + 1, .cons q t => .cons q (IsAll.set h i t)
theorem IsAll.take {O : Addr → Prop} {H : Hp} : ∀ {xs : List V} {ds : List PyData} (n : Nat), IsAll O H xs ds → IsAll O H (xs.take n) (ds.take n)
  | _, _, 0, _ => .nil
  | _, _, _ + 1, .nil => .nil
  | _, _, n + 1, .cons r t => .cons r (IsAll.take n t)
theorem IsAll.drop {O : Addr → Prop} {H : Hp} : ∀ {xs : List V} {ds : List PyData} (n : Nat), IsAll O H xs ds → IsAll O H (xs.drop n) (ds.drop n)
  | _, _, 0, r => r
  | _, _, _ + 1, .nil => .nil
  | _, _, n + 1, .cons _ t => IsAll.drop n t
theorem IsAll.dropLast {O : Addr → Prop} {H : Hp} {xs : List V} {ds : List PyData} (h : IsAll O H xs ds) : IsAll O H xs.dropLast ds.dropLast := by
  rw [List.dropLast_eq_take, List.dropLast_eq_take, h.length]
  exact h.take _
theorem IsAll.reverse {O : Addr → Prop} {H : Hp} : ∀ {xs : List V} {ds : List PyData}, IsAll O H xs ds → IsAll O H xs.reverse ds.reverse
  | _, _, .nil => .nil
  | _, _, .cons r t => by
    rw [List.reverse_cons, List.reverse_cons]
    exact (IsAll.reverse t).append (.cons r .nil)

/-! ### data without lists and dicts: it does not matter where they stand -/
mutual
def flat : PyData → Bool
  | .none => true
  | .bool _ => true
  | .int _ => true
  | .str _ => true
  | .list _ => false
  | .tuple xs => flats xs
  | .dict _ => false
def flats : List PyData → Bool
  | [] => true
  | d :: ds => flat d && flats ds
end
theorem Is.flat_any {O O' : Addr → Prop} {H : Hp} {v : V} {d : PyData} (h : Is O H v d) (f : flat d = true) : Is O' H v d := by
  revert f
  induction h using Is.rec (motive_2 := fun xs ds _ => flats ds = true → IsAll O' H xs ds) (motive_3 := fun xs ds _ => True) (motive_4 := fun xs ds _ => True) with
  | non => exact fun _ => .non
  | bl b => exact fun _ => .bl b
  | int i => exact fun _ => .int i
  | str x => exact fun _ => .str x
  | lst n r _ ih => intro f; simp [flat] at f
  | tup r _ ih => intro f; exact .tup r (ih (by simpa [flat] using f))
  | dK n r _ ih => intro f; simp [flat] at f
  | dT n r _ ih => intro f; simp [flat] at f
  | nil => first | exact IsAll.nil | exact fun _ => IsAll.nil
  | cons _ _ h1 h2 =>
    rename_i f
    simp only [flats, Bool.and_eq_true] at f
    exact .cons (h1 f.1) (h2 f.2)
  | nilK => trivial
  | consK _ _ _ _ => trivial
  | nilT => trivial
  | consT _ _ _ _ => trivial

/-! ### the names' values as data -/
inductive Cell where
  /-- data that is written no more -/
  | val (d : PyData)
  /-- the def's own container at a: no one else holds it -/
  | own (a : Addr) (d : PyData)
  /-- data of its own: all its lists and dicts stand at P, no one else holds them -/
  | deep (P : Addr → Prop) (d : PyData)
abbrev DEnv := List (Option Cell)
/-- where a cell's own containers stand -/
def cellA : Cell → Addr → Prop
  | .val _, _ => False
  | .own a _, b => b = a
  | .deep P _, b => P b
/-- O: the callers' own containers; H0: the heap at the entry; mu: the containers that the def may write though it did not make them -/
structure Bs where
  O : Addr → Prop
  H0 : Hp
  mu : Addr → Prop
def owns (ρ : DEnv) (a : Addr) : Prop := ∃ (i : Nat) (c : Cell), ρ[i]? = some (some c) ∧ cellA c a
def OW (B : Bs) (ρ : DEnv) (a : Addr) : Prop := B.O a ∨ owns ρ a
/-- what an own container holds -/
inductive Hold (O : Addr → Prop) (H : Hp) : HO → PyData → Prop
  | lst {xs : List V} {ds : List PyData} : IsAll O H xs ds → Hold O H (.lst xs) (.list ds)
  | dK {kvs : List (Key × V)} {es : List (PyData × PyData)} : IsK O H kvs es → Hold O H (.dK kvs) (.dict es)
  | dT {kvs : List (List Key × V)} {es : List (PyData × PyData)} : IsT O H kvs es → Hold O H (.dT kvs) (.dict ((.none, .none) :: es))
theorem Hold.mono {O O' : Addr → Prop} {H H' : Hp} {u : HO} {d : PyData} (m : Adv O O' H H') (h : Hold O H u d) : Hold O' H' u d := by
  cases h with
  | lst r => exact .lst (r.mono m)
  | dK r => exact .dK (r.mono m)
  | dT r => exact .dT (r.mono m)
theorem Hold.nt {O : Addr → Prop} {H : Hp} {u : HO} {d : PyData} (h : Hold O H u d) : isTup u = false := by
  cases h <;> rfl
/-- what stands at an own address -/
def Top (O : Addr → Prop) (H : Hp) (a : Addr) (d : PyData) : Prop := ∃ u, H a = some u ∧ Hold O H u d
theorem Top.trk {O : Addr → Prop} {H : Hp} {a : Addr} {d : PyData} (h : Top O H a d) : ∃ o, H a = some o ∧ isTup o = false := by
  obtain ⟨u, e, h⟩ := h
  exact ⟨u, e, h.nt⟩
/-- the container itself is as it was -/
theorem Top.mono {O O' : Addr → Prop} {H H' : Hp} {a : Addr} {d : PyData} (m : Adv O O' H H') (e : H' a = H a) (h : Top O H a d) : Top O' H' a d := by
  obtain ⟨u, q, h⟩ := h
  exact ⟨u, e.trans q, h.mono m⟩
theorem Top.is {O : Addr → Prop} {H : Hp} {a : Addr} {d : PyData} (n : ¬ O a) (h : Top O H a d) : Is O H (.ref a) d := by
  obtain ⟨u, q, h⟩ := h
  cases h with
  | lst r => exact .lst n q r
  | dK r => exact .dK n (.inl q) r
  | dT r => exact .dT n (.inl q) r


def CellIs (O : Addr → Prop) (H : Hp) (v : V) : Cell → Prop
  | .val d => Is O H v d
  | .own a d => v = .ref a ∧ Top O H a d
  | .deep P d => Is (fun b => ¬ P b) H v d
theorem CellIs.mono {O O' : Addr → Prop} {H H' : Hp} {v : V} {c : Cell} (m : Adv O O' H H') (k : ∀ a o, cellA c a → H a = some o → H' a = some o) (t : ∀ a o, H a = some o → isTup o = true → H' a = some o) (h : CellIs O H v c) : CellIs O' H' v c := by
  cases c with
  | val d => exact Is.mono m h
  | own a d =>
    obtain ⟨h1, u, h2, h3⟩ := h
    exact ⟨h1, u, k a u rfl h2, h3.mono m⟩
  | deep P d =>
    refine Is.mono (O := fun b => ¬ P b) (O' := fun b => ¬ P b) ⟨fun b o e z => ?_, fun b o e z => z⟩ h
    rcases z with z | z
    · exact k b o (Classical.byContradiction z) e
    · exact t b o e z

structure Rep (B : Bs) (ρ : DEnv) (σ : L2.St) (H : Hp) : Prop where
  len : ρ.length = σ.length
  trk : ∀ a, B.O a → ∃ o, H a = some o ∧ isTup o = false
  cel : ∀ (i : Nat) (c : Cell), ρ[i]? = some (some c) → ∃ v, σ[i]? = some (some v) ∧ CellIs (OW B ρ) H v c
  adr : ∀ (i : Nat) (c : Cell) (a : Addr), ρ[i]? = some (some c) → cellA c a → (∃ o, H a = some o ∧ isTup o = false) ∧ ¬ B.O a ∧ (B.mu a ∨ B.H0 a = none)
  inj : ∀ (i j : Nat) (c c' : Cell) (a : Addr), ρ[i]? = some (some c) → ρ[j]? = some (some c') → cellA c a → cellA c' a → i = j
  keep : ∀ b o, B.H0 b = some o → ¬ B.mu b → H b = some o
section
variable {B : Bs} {ρ : DEnv} {σ : L2.St} {H H' : Hp}
theorem Rep.ow (R : Rep B ρ σ H) {a : Addr} (h : OW B ρ a) : ∃ o, H a = some o ∧ isTup o = false := by
  rcases h with h | ⟨i, c, h, z⟩
  · exact R.trk a h
  · exact (R.adr i c a h z).1
/-- a new address is no own one -/
theorem Rep.new (R : Rep B ρ σ H) {p : Addr} (h : H p = none) : ¬ OW B ρ p := fun z => by
  obtain ⟨o, e, _⟩ := R.ow z
  rw [h] at e; cases e
theorem Rep.val (R : Rep B ρ σ H) (i : Nat) (d : PyData) (h : ρ[i]? = some (some (.val d))) : ∃ v, σ[i]? = some (some v) ∧ Is (OW B ρ) H v d := R.cel i _ h
theorem Rep.own (R : Rep B ρ σ H) (i : Nat) (a : Addr) (d : PyData) (h : ρ[i]? = some (some (.own a d))) : σ[i]? = some (some (.ref a)) ∧ ¬ B.O a ∧ Top (OW B ρ) H a d ∧ (B.mu a ∨ B.H0 a = none) := by
  obtain ⟨v, h1, h2, h3⟩ := R.cel i _ h
  subst h2
  obtain ⟨_, h4, h5⟩ := R.adr i _ a h rfl
  exact ⟨h1, h4, h3, h5⟩
/-- a new object that is no own container -/
theorem Adv.new {O : Addr → Prop} {p : Addr} {u : HO} (h : H p = none) : Adv O O H (upd H p u) := by
  refine ⟨fun b o e _ => ?_, fun _ _ _ k => k⟩
  rw [upd_ne (ne_of_none e h)]
  exact e
theorem same_new {p : Addr} {u : HO} (h : H p = none) : Same H (upd H p u) := fun b o e => by
  rw [upd_ne (ne_of_none e h)]
  exact e
theorem Adv.same {O : Addr → Prop} (s : Same H H') : Adv O O H H' := ⟨fun b o e _ => s b o e, fun _ _ _ k => k⟩
/-- all that was tracked stands: the state is told as before -/
theorem Rep.same (R : Rep B ρ σ H) (s : Same H H') : Rep B ρ σ H' := by
  refine ⟨R.len, fun a h => ?_, fun i c e => ?_, fun i c a h z => ?_, R.inj, fun b o e n => s _ _ (R.keep b o e n)⟩
  · obtain ⟨o, e, t⟩ := R.trk a h
    exact ⟨o, s _ _ e, t⟩
  · obtain ⟨v, h1, h2⟩ := R.cel i c e
    exact ⟨v, h1, h2.mono (.same s) (fun a o _ e => s _ _ e) fun a o e _ => s _ _ e⟩
  · obtain ⟨⟨o, e, t⟩, h2⟩ := R.adr i c a h z
    exact ⟨⟨o, s _ _ e, t⟩, h2⟩

theorem get_set_cases {α : Type} {l : List (Option α)} {i j : Nat} {x : Option α} {y : α} (h : (l.set i x)[j]? = some (some y)) : (j = i ∧ x = some y ∧ i < l.length) ∨ (j ≠ i ∧ l[j]? = some (some y)) := by
  by_cases e : j = i
  · subst e
    by_cases hl : j < l.length
    · rw [List.getElem?_set_self hl] at h
      exact .inl ⟨rfl, Option.some.inj h, hl⟩
    · rw [List.getElem?_eq_none (by rw [List.length_set]; omega)] at h
      cases h
  · rw [List.getElem?_set_ne (Ne.symm e)] at h
    exact .inr ⟨e, h⟩
theorem owns_set {i : Nat} {c : Option Cell} {a : Addr} (h : owns (ρ.set i c) a) : (∃ d, c = some d ∧ cellA d a) ∨ owns ρ a := by
  obtain ⟨j, d, e, z⟩ := h
  rcases get_set_cases e with ⟨_, e1, _⟩ | ⟨_, e1⟩
  · exact .inl ⟨d, e1, z⟩
  · exact .inr ⟨j, d, e1, z⟩
/-- a cell is set; H' is H but at addresses of the new cell -/
theorem Rep.setCell (R : Rep B ρ σ H) {i : Nat} {v : V} {c : Cell} (m : Adv (OW B ρ) (OW B (ρ.set i (some c))) H H') (h : CellIs (OW B (ρ.set i (some c))) H' v c)
    (hO : ∀ a o, B.O a → H a = some o → H' a = some o) (hk : ∀ b o, B.H0 b = some o → ¬ B.mu b → H b = some o → H' b = some o)
    (ha : ∀ a, cellA c a → (∃ o, H' a = some o ∧ isTup o = false) ∧ ¬ B.O a ∧ (B.mu a ∨ B.H0 a = none)) (hd : ∀ (j : Nat) (c' : Cell) (a : Addr), j ≠ i → ρ[j]? = some (some c') → cellA c' a → ¬ cellA c a)
    (ht : ∀ a o, H a = some o → isTup o = true → H' a = some o) (he : ∀ (j : Nat) (c' : Cell) (a : Addr) (o : HO), j ≠ i → ρ[j]? = some (some c') → cellA c' a → H a = some o → H' a = some o) :
    Rep B (ρ.set i (some c)) (σ.set i (some v)) H' := by
  refine ⟨by rw [List.length_set, List.length_set]; exact R.len, fun a h => ?_, fun j c' hj => ?_, fun j c' a hj z => ?_, fun j k c1 c2 a hj hk z1 z2 => ?_, fun b o e n => hk b o e n (R.keep b o e n)⟩
  · obtain ⟨o, e, t⟩ := R.trk a h
    exact ⟨o, hO a o h e, t⟩
  · rcases get_set_cases hj with ⟨rfl, e1, hl⟩ | ⟨ne, hj1⟩
    · cases e1
      exact ⟨v, by rw [List.getElem?_set_self (by rw [← R.len]; exact hl)], h⟩
    · obtain ⟨w, h1, h2⟩ := R.cel j c' hj1
      exact ⟨w, by rw [List.getElem?_set_ne (Ne.symm ne)]; exact h1, h2.mono m (fun a o z e => he j c' a o ne hj1 z e) ht⟩
  · rcases get_set_cases hj with ⟨rfl, e1, hl⟩ | ⟨ne, hj1⟩
    · cases e1
      exact ha a z
    · obtain ⟨⟨o, e, t⟩, h2⟩ := R.adr j c' a hj1 z
      exact ⟨⟨o, he j c' a o ne hj1 z e, t⟩, h2⟩
  · rcases get_set_cases hj with ⟨rfl, e1, hl⟩ | ⟨ne, hj1⟩
    · cases e1
      rcases get_set_cases hk with ⟨rfl, e1, hl⟩ | ⟨ne', hk1⟩
      · rfl
      · exact absurd z1 (hd k c2 a ne' hk1 z2)
    · rcases get_set_cases hk with ⟨rfl, e1, hl⟩ | ⟨ne', hk1⟩
      · cases e1
        exact absurd z2 (hd j c1 a ne hj1 z1)
      · exact R.inj j k c1 c2 a hj1 hk1 z1 z2
/-- a name is given data -/
theorem Rep.setVal (R : Rep B ρ σ H) {i : Nat} {v : V} {d : PyData} (h : Is (OW B ρ) H v d) :
    Rep B (ρ.set i (some (.val d))) (σ.set i (some v)) H ∧ Adv (OW B ρ) (OW B (ρ.set i (some (.val d)))) H H := by
  have sub : ∀ a, OW B (ρ.set i (some (.val d))) a → OW B ρ a := fun a z => z.elim .inl fun z => (owns_set z).elim (fun ⟨_, e, z⟩ => by cases e; exact z.elim) .inr
  have m := Adv.sub (H := H) sub
  exact ⟨R.setCell m (h.mono m) (fun _ _ _ e => e) (fun _ _ _ _ e => e) (fun a z => z.elim) (fun _ _ _ _ _ _ z => z) (fun _ _ e _ => e) (fun _ _ _ _ _ _ _ e => e), m⟩
/-- a name loses its value (it is not asked any more) -/
theorem Rep.wipe (R : Rep B ρ σ H) {i : Nat} (x : Option V) : Rep B (ρ.set i none) (σ.set i x) H ∧ Adv (OW B ρ) (OW B (ρ.set i none)) H H := by
  have sub : ∀ a, OW B (ρ.set i none) a → OW B ρ a := fun a z => z.elim .inl fun z => (owns_set z).elim (fun ⟨_, e, z⟩ => by cases e) .inr
  have m := Adv.sub (H := H) sub
  refine ⟨⟨by rw [List.length_set, List.length_set]; exact R.len, R.trk, fun j c hj => ?_, fun j c a hj z => ?_, fun j k c1 c2 a hj hk z1 z2 => ?_, R.keep⟩, m⟩
  · rcases get_set_cases hj with ⟨rfl, e1, hl⟩ | ⟨ne, hj1⟩
    · cases e1
    · obtain ⟨w, h1, h2⟩ := R.cel j c hj1
      exact ⟨w, by rw [List.getElem?_set_ne (Ne.symm ne)]; exact h1, h2.mono m (fun _ _ _ e => e) fun _ _ e _ => e⟩
  · rcases get_set_cases hj with ⟨rfl, e1, hl⟩ | ⟨ne, hj1⟩
    · cases e1
    · exact R.adr j c a hj1 z
  · rcases get_set_cases hj with ⟨rfl, e1, hl⟩ | ⟨ne, hj1⟩
    · cases e1
    · rcases get_set_cases hk with ⟨rfl, e1, hl⟩ | ⟨ne', hk1⟩
      · cases e1
      · exact R.inj j k c1 c2 a hj1 hk1 z1 z2
theorem set_same {α : Type} : ∀ {l : List α} {i : Nat} {x : α}, l[i]? = some x → l.set i x = l
  | [], i, x, h => by simp at h
  | y :: l, 0, x, h => by
    cases h
    rfl
  | y :: l, i + 1, x, h => by
    rw [List.set_cons_succ, set_same (l := l) (by simpa using h)]
/-- own containers are written no more -/
theorem Rep.freeze (R : Rep B ρ σ H) {i : Nat} {c : Cell} {v : V} {d : PyData} (h : ρ[i]? = some (some c)) (hv : σ[i]? = some (some v)) (is : Is (fun b => OW B ρ b ∧ ¬ cellA c b) H v d) :
    Rep B (ρ.set i (some (.val d))) σ H ∧ Is (OW B (ρ.set i (some (.val d)))) H v d ∧ Adv (OW B ρ) (OW B (ρ.set i (some (.val d)))) H H := by
  have sub : ∀ a, OW B (ρ.set i (some (.val d))) a → OW B ρ a ∧ ¬ cellA c a := fun a z => by
    rcases z with z | ⟨j, c', e, z⟩
    · exact ⟨.inl z, fun y => (R.adr i c a h y).2.1 z⟩
    · rcases get_set_cases e with ⟨rfl, e1, hl⟩ | ⟨ne, hj1⟩
      · cases e1; exact z.elim
      · exact ⟨.inr ⟨j, c', hj1, z⟩, fun y => ne (R.inj j i c' c a hj1 h z y)⟩
  have m := Adv.sub (H := H) fun a z => (sub a z).1
  have is' : Is (OW B (ρ.set i (some (.val d)))) H v d := is.mono (Adv.sub sub)
  have R' := R.setCell (i := i) (v := v) (c := .val d) m is' (fun _ _ _ e => e) (fun _ _ _ _ e => e) (fun a z => z.elim) (fun _ _ _ _ _ _ z => z) (fun _ _ e _ => e) (fun _ _ _ _ _ _ _ e => e)
  rw [set_same hv] at R'
  exact ⟨R', is', m⟩
/-- the container at i is written (by a call, perhaps): what stands there now is data outside the own ones -/
theorem Rep.writeBy (R : Rep B ρ σ H) {i : Nat} {a : Addr} {d d' : PyData} (h : ρ[i]? = some (some (.own a d))) (kp : ∀ b o, H b = some o → b ≠ a → H' b = some o)
    (t : Top (OW B ρ) H' a d') : Rep B (ρ.set i (some (.own a d'))) σ H' ∧ Adv (OW B ρ) (OW B (ρ.set i (some (.own a d')))) H H' := by
  obtain ⟨g1, g2, g3, g4⟩ := R.own i a d h
  have oa : OW B ρ a := .inr ⟨i, _, h, rfl⟩
  have sub : ∀ b, OW B (ρ.set i (some (.own a d'))) b → OW B ρ b := fun b z => z.elim .inl fun z => (owns_set z).elim (fun ⟨_, e, z⟩ => by cases e; cases (show b = a from z); exact oa) .inr
  have nt : ∀ b o, H b = some o → isTup o = true → b ≠ a := fun b o e k z => by
    subst z
    obtain ⟨o', e', t'⟩ := g3.trk
    rw [e] at e'; cases e'; rw [k] at t'; cases t'
  have m : Adv (OW B ρ) (OW B (ρ.set i (some (.own a d')))) H H' := by
    refine ⟨fun b o e k => ?_, fun b o e k z => k (sub b z)⟩
    have ne : b ≠ a := by
      rintro rfl
      rcases k with k | k
      · exact k oa
      · exact nt _ o e k rfl
    exact kp b o e ne
  have R' := R.setCell (i := i) (v := .ref a) (c := .own a d') m ⟨rfl, t.mono (Adv.sub sub) rfl⟩ (fun b o z e => kp b o e fun y => g2 (y ▸ z)) (fun b o e n q => kp b o q fun y => ?_)
    (fun b z => ?_) (fun j c' b ne hj z y => ?_) (fun b o e k => kp b o e (nt b o e k)) (fun j c' b o ne hj z e => kp b o e fun y => ?_)
  · rw [set_same g1] at R'
    exact ⟨R', m⟩
  · subst y
    rcases g4 with z | z
    · exact n z
    · rw [z] at e; cases e
  · cases (show b = a from z)
    exact ⟨t.trk, g2, g4⟩
  · cases (show b = a from y)
    exact ne (R.inj j i c' _ _ hj h z rfl)
  · subst y
    exact ne (R.inj j i c' _ _ hj h z rfl)
theorem Rep.write (R : Rep B ρ σ H) {i : Nat} {a : Addr} {d d' : PyData} {u : HO} (h : ρ[i]? = some (some (.own a d)))
    (t : Hold (OW B ρ) H u d') : Rep B (ρ.set i (some (.own a d'))) σ (upd H a u) ∧ Adv (OW B ρ) (OW B (ρ.set i (some (.own a d')))) H (upd H a u) := by
  have kp : ∀ b o, H b = some o → b ≠ a → upd H a u b = some o := fun b o e ne => by rw [upd_ne ne]; exact e
  have oa : OW B ρ a := .inr ⟨i, _, h, rfl⟩
  have m : Adv (OW B ρ) (OW B ρ) H (upd H a u) := by
    refine ⟨fun b o e k => kp b o e ?_, fun _ _ _ k => k⟩
    rintro rfl
    rcases k with k | k
    · exact k oa
    · obtain ⟨o', e', t'⟩ := R.ow oa
      rw [e] at e'; cases e'; rw [k] at t'; cases t'
  exact R.writeBy h kp ⟨u, upd_same, t.mono m⟩
/-- those at P too are own containers, of no name -/
def Bs.more (B : Bs) (P : Addr → Prop) : Bs := { B with O := fun b => B.O b ∨ P b }
abbrev Bs.plus (B : Bs) (p : Addr) : Bs := B.more (· = p)
/-- new containers that no name holds yet -/
theorem Rep.freshen (R : Rep B ρ σ H) {P : Addr → Prop} (hs : Same H H') (hp : ∀ p, P p → H p = none ∧ ∃ o, H' p = some o ∧ isTup o = false) :
    Rep (B.more P) ρ σ H' ∧ Adv (OW B ρ) (OW (B.more P) ρ) H H' := by
  have m : Adv (OW B ρ) (OW (B.more P) ρ) H H' := by
    refine ⟨fun b o e k => hs b o e, fun b o e k z => ?_⟩
    rcases z with (z | z) | z
    · exact k (.inl z)
    · have := (hp b z).1; rw [e] at this; cases this
    · exact k (.inr z)
  refine ⟨⟨R.len, fun a h => ?_, fun i c h => ?_, fun i c a h z => ?_, R.inj, fun b o e n => hs _ _ (R.keep b o e n)⟩, m⟩
  · rcases h with h | h
    · obtain ⟨o, e, tt⟩ := R.trk a h
      exact ⟨o, hs _ _ e, tt⟩
    · exact (hp a h).2
  · obtain ⟨w, h1, h2⟩ := R.cel i c h
    exact ⟨w, h1, h2.mono m (fun a o _ e => hs _ _ e) fun a o e _ => hs _ _ e⟩
  · obtain ⟨⟨o, e, t⟩, h2, h3⟩ := R.adr i c a h z
    exact ⟨⟨o, hs _ _ e, t⟩, fun y => y.elim h2 fun y => (by have := (hp a y).1; rw [e] at this; cases this), h3⟩
theorem Rep.fresh (R : Rep B ρ σ H) {p : Addr} {u : HO} {d : PyData} (hp : H p = none) (t : Hold (OW B ρ) H u d) :
    Rep (B.plus p) ρ σ (upd H p u) ∧ Top (OW (B.plus p) ρ) (upd H p u) p d ∧ Adv (OW B ρ) (OW (B.plus p) ρ) H (upd H p u) := by
  obtain ⟨R', m⟩ := R.freshen (P := (· = p)) (same_new (u := u) hp) fun q e => by
    cases (show q = p from e)
    exact ⟨hp, u, upd_same, t.nt⟩
  exact ⟨R', ⟨u, upd_same, t.mono m⟩, m⟩
/-- .. and a name is given them -/
theorem Rep.adoptC {P : Addr → Prop} (R : Rep (B.more P) ρ σ H) {i : Nat} {v : V} {c : Cell} (hc : ∀ a, cellA c a → P a) (t : CellIs (OW (B.more P) ρ) H v c) (hp : ∀ p, cellA c p → ¬ B.O p ∧ (B.mu p ∨ B.H0 p = none)) :
    Rep B (ρ.set i (some c)) (σ.set i (some v)) H ∧ Adv (OW (B.more P) ρ) (OW B (ρ.set i (some c))) H H := by
  have sub : ∀ a, OW B (ρ.set i (some c)) a → OW (B.more P) ρ a := fun a z => z.elim (fun z => .inl (.inl z)) fun z => (owns_set z).elim (fun ⟨_, e, z⟩ => by cases e; exact .inl (.inr (hc a z))) .inr
  have m := Adv.sub (H := H) sub
  have m2 : Adv (OW (B.more P) ρ) (OW B ρ) H H := Adv.sub fun a z => z.elim (fun z => .inl (.inl z)) .inr
  have R0 : Rep B ρ σ H := ⟨R.len, fun a h => R.trk a (.inl h), fun j c' h => let ⟨w, h1, h2⟩ := R.cel j c' h; ⟨w, h1, h2.mono m2 (fun _ _ _ e => e) fun _ _ e _ => e⟩,
    fun j c' a h z => let ⟨h1, h2, h3⟩ := R.adr j c' a h z; ⟨h1, fun y => h2 (.inl y), h3⟩, R.inj, R.keep⟩
  have np : ∀ (j : Nat) (c' : Cell) (a : Addr), ρ[j]? = some (some c') → cellA c' a → ¬ P a := fun j c' a h z y => (R.adr j c' a h z).2.1 (.inr y)
  have m3 : Adv (OW B ρ) (OW B (ρ.set i (some c))) H H → True := fun _ => trivial
  refine ⟨⟨by rw [List.length_set, List.length_set]; exact R.len, R0.trk, fun j c' hj => ?_, fun j c' a hj z => ?_, fun j k c1 c2 a hj hk z1 z2 => ?_, R.keep⟩, m⟩
  · rcases get_set_cases hj with ⟨rfl, e1, hl⟩ | ⟨ne, hj1⟩
    · cases e1
      exact ⟨v, by rw [List.getElem?_set_self (by rw [← R.len]; exact hl)], t.mono m (fun _ _ _ e => e) fun _ _ e _ => e⟩
    · obtain ⟨w, h1, h2⟩ := R.cel j c' hj1
      exact ⟨w, by rw [List.getElem?_set_ne (Ne.symm ne)]; exact h1, h2.mono m (fun _ _ _ e => e) fun _ _ e _ => e⟩
  · rcases get_set_cases hj with ⟨rfl, e1, hl⟩ | ⟨ne, hj1⟩
    · cases e1
      exact ⟨R.trk a (.inr (hc a z)), hp a z⟩
    · exact R0.adr j c' a hj1 z
  · rcases get_set_cases hj with ⟨rfl, e1, hl⟩ | ⟨ne, hj1⟩
    · cases e1
      rcases get_set_cases hk with ⟨rfl, e1, hl⟩ | ⟨ne', hk1⟩
      · rfl
      · exact absurd (hc a z1) (np k c2 a hk1 z2)
    · rcases get_set_cases hk with ⟨rfl, e1, hl⟩ | ⟨ne', hk1⟩
      · cases e1
        exact absurd (hc a z2) (np j c1 a hj1 z1)
      · exact R.inj j k c1 c2 a hj1 hk1 z1 z2
theorem Rep.adopt {p : Addr} (R : Rep (B.plus p) ρ σ H) {i : Nat} {d : PyData} (t : Top (OW (B.plus p) ρ) H p d) (n : ¬ B.O p) (hm : B.mu p ∨ B.H0 p = none) :
    Rep B (ρ.set i (some (.own p d))) (σ.set i (some (.ref p))) H ∧ Adv (OW (B.plus p) ρ) (OW B (ρ.set i (some (.own p d)))) H H :=
  R.adoptC (fun a z => z) ⟨rfl, t⟩ fun q z => by
    cases (show q = p from z)
    exact ⟨n, hm⟩
/-- .. or no name is -/
theorem Rep.drop {P : Addr → Prop} (R : Rep (B.more P) ρ σ H) : Rep B ρ σ H ∧ Adv (OW (B.more P) ρ) (OW B ρ) H H := by
  have m2 : Adv (OW (B.more P) ρ) (OW B ρ) H H := Adv.sub fun a z => z.elim (fun z => .inl (.inl z)) .inr
  exact ⟨⟨R.len, fun a h => R.trk a (.inl h), fun j c' h => let ⟨w, h1, h2⟩ := R.cel j c' h; ⟨w, h1, h2.mono m2 (fun _ _ _ e => e) fun _ _ e _ => e⟩,
    fun j c' a h z => let ⟨h1, h2, h3⟩ := R.adr j c' a h z; ⟨h1, fun y => h2 (.inl y), h3⟩, R.inj, R.keep⟩, m2⟩
/-- what is new now was not there at the entry, or may be written -/
theorem Rep.entry (R : Rep B ρ σ H) {p : Addr} (hp : H p = none) : ¬ B.O p ∧ (B.mu p ∨ B.H0 p = none) := by
  refine ⟨fun z => R.new hp (.inl z), ?_⟩
  by_cases hm : B.mu p
  · exact .inl hm
  · refine .inr ?_
    cases q : B.H0 p with
    | none => rfl
    | some o =>
      have := R.keep p o q hm
      rw [hp] at this; cases this
end
end DL
namespace DL
open PySem PySem.Spec PyProof.Rows L2

/-! ### texts as lists of signs -/
def L (x : Str) : List Nat := x.cps.toList
def mk (l : List Nat) : Str := ⟨l.toArray⟩
abbrev S (l : List Nat) : PyData := .str (mk l)
theorem L_mk (l : List Nat) : L (mk l) = l := rfl
theorem mk_L (x : Str) : mk (L x) = x := by
  cases x
  rfl
theorem L_len (x : Str) : (L x).length = x.length := by
  show x.cps.toList.length = x.cps.size
  rw [Array.length_toList]
theorem L_app (x y : Str) : mk (L x ++ L y) = x ++ y := by
  have e : L (x ++ y) = L x ++ L y := by
    show (x.cps ++ y.cps).toList = _
    rw [Array.toList_append]
    rfl
  rw [← e, mk_L]
theorem mk_inj {l m : List Nat} (h : mk l = mk m) : l = m := congrArg L h

/-! ### operands, readings on data -/
/-- an operand: data, or what the name at a place holds -/
inductive OV where
  | vl (d : PyData)
  | nm (i : Nat)
/-- read -/
def OV.rd (o : OV) (ρ : DEnv) (k : PyData → Prop) : Prop := match o with
  | .vl d => k d
  | .nm i => match ρ[i]? with
    | some (some (.val d)) => k d
    | some (some (.own _ d)) => k d
    | _ => False
/-- handed on: an own container is written no more from here on -/
def OV.tk (o : OV) (ρ : DEnv) (k : PyData → DEnv → Prop) : Prop := match o with
  | .vl d => k d ρ
  | .nm i => match ρ[i]? with
    | some (some (.val d)) => k d ρ
    | some (some (.own _ d)) => k d (ρ.set i (some (.val d)))
    | some (some (.deep _ d)) => k d (ρ.set i (some (.val d)))
    | _ => False
/-- looked at as a whole -/
def OV.rdx (o : OV) (ρ : DEnv) (k : PyData → Prop) : Prop := match o with
  | .vl d => k d
  | .nm i => match ρ[i]? with
    | some (some (.val d)) => k d
    | some (some (.own _ d)) => k d
    | some (some (.deep _ d)) => k d
    | _ => False
abbrev DT := DEnv → (OV → DEnv → Prop) → Prop
def OIs (B : Bs) (ρ : DEnv) (σ : L2.St) (H : Hp) (v : V) : OV → Prop
  | .vl d => Is (OW B ρ) H v d
  | .nm i => σ[i]? = some (some v)
/-- data that is looked at as a whole -/
def RdX (H : Hp) (v : V) (d : PyData) : Prop := ∃ O, Is O H v d
/-- data that is read: an own container's too -/
def RdB (O : Addr → Prop) (H : Hp) (v : V) (d : PyData) : Prop := Is O H v d ∨ ∃ a, v = .ref a ∧ Top O H a d
def upO (t : DT) : TE := fun σ H Q => ∃ B ρ q, Rep B ρ σ H ∧ t ρ q ∧ ∀ o ρ' v H', q o ρ' → Adv (OW B ρ) (OW B ρ') H H' → Rep B ρ' σ H' → OIs B ρ' σ H' v o → Q v H'
abbrev DO (X : Cx) (e : Expr) (t : DT) : Prop := PE X e (upO t)

theorem OIs.adv {B : Bs} {ρ ρ' : DEnv} {σ : L2.St} {H H' : Hp} {v : V} {o : OV} (h : OIs B ρ σ H v o) (m : Adv (OW B ρ) (OW B ρ') H H') : OIs B ρ' σ H' v o := by
  cases o with
  | vl d => exact Is.mono m h
  | nm i => exact h
theorem OIs.rd {B : Bs} {ρ : DEnv} {σ : L2.St} {H : Hp} {v : V} {o : OV} {k : PyData → Prop} (h : OIs B ρ σ H v o) (R : Rep B ρ σ H) (r : o.rd ρ k) : ∃ d, k d ∧ RdB (OW B ρ) H v d := by
  cases o with
  | vl d => exact ⟨d, r, .inl h⟩
  | nm i =>
    simp only [OV.rd] at r
    have h' : σ[i]? = some (some v) := h
    split at r
    · rename_i d e
      obtain ⟨w, e1, e2⟩ := R.val i d e
      rw [h'] at e1; cases e1
      exact ⟨d, r, .inl e2⟩
    · rename_i a d e
      obtain ⟨e1, e2, e3, _⟩ := R.own i a d e
      rw [h'] at e1; cases e1
      exact ⟨d, r, .inr ⟨a, rfl, e3⟩⟩
    · exact r.elim
theorem OIs.tk {B : Bs} {ρ : DEnv} {σ : L2.St} {H : Hp} {v : V} {o : OV} {k : PyData → DEnv → Prop} (h : OIs B ρ σ H v o) (R : Rep B ρ σ H) (r : o.tk ρ k) :
    ∃ d ρ', k d ρ' ∧ Is (OW B ρ') H v d ∧ Rep B ρ' σ H ∧ Adv (OW B ρ) (OW B ρ') H H := by
  cases o with
  | vl d => exact ⟨d, ρ, r, h, R, .refl⟩
  | nm i =>
    simp only [OV.tk] at r
    have h' : σ[i]? = some (some v) := h
    split at r
    · rename_i d e
      obtain ⟨w, e1, e2⟩ := R.val i d e
      rw [h'] at e1; cases e1
      exact ⟨d, ρ, r, e2, R, .refl⟩
    · rename_i a d e
      obtain ⟨e1, _, e3, _⟩ := R.own i a d e
      have e1' := e1
      rw [h'] at e1; cases e1
      have m : Adv (OW B ρ) (fun b => OW B ρ b ∧ ¬ cellA (.own a d) b) H H := Adv.sub fun _ z => z.1
      obtain ⟨f1, f2, f3⟩ := R.freeze e e1' ((e3.mono m rfl).is fun z => z.2 rfl)
      exact ⟨d, _, r, f2, f1, f3⟩
    · rename_i P d e
      obtain ⟨w, e1, e2⟩ := R.cel i _ e
      have e1' := e1
      rw [h'] at e1; cases e1
      have e3 : Is (fun b => ¬ P b) H v d := e2
      obtain ⟨f1, f2, f3⟩ := R.freeze e e1' (e3.mono (Adv.sub fun b z => z.2))
      exact ⟨d, _, r, f2, f1, f3⟩
    · exact r.elim
theorem OIs.rdx {B : Bs} {ρ : DEnv} {σ : L2.St} {H : Hp} {v : V} {o : OV} {k : PyData → Prop} (h : OIs B ρ σ H v o) (R : Rep B ρ σ H) (r : o.rdx ρ k) : ∃ d, k d ∧ RdX H v d := by
  cases o with
  | vl d => exact ⟨d, r, _, h⟩
  | nm i =>
    simp only [OV.rdx] at r
    have h' : σ[i]? = some (some v) := h
    split at r
    · rename_i d e
      obtain ⟨w, e1, e2⟩ := R.val i d e
      rw [h'] at e1; cases e1
      exact ⟨d, r, _, e2⟩
    · rename_i a d e
      obtain ⟨e1, e2, e3, _⟩ := R.own i a d e
      rw [h'] at e1; cases e1
      have m : Adv (OW B ρ) (fun b => OW B ρ b ∧ b ≠ a) H H := Adv.sub fun _ z => z.1
      exact ⟨d, r, _, (e3.mono m rfl).is fun z => z.2 rfl⟩
    · rename_i P d e
      obtain ⟨w, e1, e2⟩ := R.cel i _ e
      rw [h'] at e1; cases e1
      exact ⟨d, r, _, e2⟩
    · exact r.elim

section
variable {O : Addr → Prop} {H : Hp} {v : V}
theorem RdB.non (h : RdB O H v .none) : v = .non := by
  rcases h with h | ⟨a, _, u, _, h⟩
  · cases h; rfl
  · cases h
theorem RdB.bl {b : Bool} (h : RdB O H v (.bool b)) : v = .bl b := by
  rcases h with h | ⟨a, _, u, _, h⟩
  · cases h; rfl
  · cases h
theorem RdB.int {i : Int} (h : RdB O H v (.int i)) : v = .int i := by
  rcases h with h | ⟨a, _, u, _, h⟩
  · cases h; rfl
  · cases h
theorem RdB.str {x : Str} (h : RdB O H v (.str x)) : v = .str x := by
  rcases h with h | ⟨a, _, u, _, h⟩
  · cases h; rfl
  · cases h
theorem RdB.lst {ds : List PyData} (h : RdB O H v (.list ds)) : ∃ a xs, v = .ref a ∧ H a = some (.lst xs) ∧ IsAll O H xs ds := by
  rcases h with h | ⟨a, rfl, u, e, h⟩
  · cases h with
    | lst n r t => exact ⟨_, _, rfl, r, t⟩
  · cases h with
    | lst t => exact ⟨_, _, rfl, e, t⟩
theorem RdB.tup {ds : List PyData} (h : RdB O H v (.tuple ds)) : ∃ a xs, v = .ref a ∧ H a = some (.tup xs) ∧ IsAll O H xs ds := by
  rcases h with h | ⟨a, rfl, u, e, h⟩
  · cases h with
    | tup r t => exact ⟨_, _, rfl, r, t⟩
  · cases h
theorem Is.int' {i : Int} (h : Is O H v (.int i)) : v = .int i := RdB.int (.inl h)
theorem Is.str' {x : Str} (h : Is O H v (.str x)) : v = .str x := RdB.str (.inl h)
theorem Is.bl' {b : Bool} (h : Is O H v (.bool b)) : v = .bl b := RdB.bl (.inl h)
theorem Is.lst' {ds : List PyData} (h : Is O H v (.list ds)) : ∃ a xs, v = .ref a ∧ H a = some (.lst xs) ∧ IsAll O H xs ds := RdB.lst (.inl h)
theorem Is.tup' {ds : List PyData} (h : Is O H v (.tuple ds)) : ∃ a xs, v = .ref a ∧ H a = some (.tup xs) ∧ IsAll O H xs ds := RdB.tup (.inl h)
end
/-- a value that tells its data in every heap -/
def Sc (z : V) (d : PyData) : Prop := ∀ O H, Is O H z d
theorem Sc.int (i : Int) : Sc (.int i) (.int i) := fun _ _ => .int i
theorem Sc.bl (b : Bool) : Sc (.bl b) (.bool b) := fun _ _ => .bl b
theorem Sc.str (x : Str) : Sc (.str x) (.str x) := fun _ _ => .str x
theorem Sc.non : Sc .non .none := fun _ _ => .non

/-- a weaker reading -/
theorem PE.imp {X : Cx} {e : Expr} {t t' : TE} (h : PE X e t) (i : ∀ σ H Q, t' σ H Q → t σ H Q) : PE X e t' := ⟨fun pins s σ H Q I hq => h.run pins s σ H Q I (i σ H Q hq)⟩
theorem PT.imp {X : Cx} {e : Expr} {t t' : TT} (h : PT X e t) (i : ∀ σ H Q, t' σ H Q → t σ H Q) : PT X e t' := ⟨fun pins s σ H Q I hq => h.run pins s σ H Q I (i σ H Q hq)⟩
theorem PA.imp {X : Cx} {e : List Expr} {t t' : TA} (h : PA X e t) (i : ∀ σ H Q, t' σ H Q → t σ H Q) : PA X e t' := ⟨fun ps pins s σ H Q I hq => h.run ps pins s σ H Q I (i σ H Q hq)⟩
theorem PS.imp {X : Cx} {e : Stmt} {t t' : TS} (h : PS X e t) (i : ∀ D σ H, t' D σ H → t D σ H) : PS X e t' := ⟨fun pins s σ H D I hq => h.run pins s σ H D I (i D σ H hq)⟩
theorem PSs.imp {X : Cx} {e : List Stmt} {t t' : TS} (h : PSs X e t) (i : ∀ D σ H, t' D σ H → t D σ H) : PSs X e t' := ⟨fun pins s σ H D I hq => h.run pins s σ H D I (i D σ H hq)⟩

theorem Rep.owt {B : Bs} {ρ : DEnv} {σ : L2.St} {H : Hp} (R : Rep B ρ σ H) : ∀ a, OW B ρ a → ∃ o, H a = some o := fun a h => let ⟨o, e, _⟩ := R.ow h; ⟨o, e⟩
section
variable {X : Cx} {a b c e : Expr} {ta tb tc : DT} {pos : Pos}
/-! ### names and constants -/
def dN (i : Nat) : DT := fun ρ q => match ρ[i]? with
  | some (some _) => q (.nm i) ρ
  | _ => False
theorem do_nm {i : Nat} {x : Str} (h : PE X (.Name x pos) (tVar i)) : DO X (.Name x pos) (dN i) :=
  PE.imp h fun σ H Q ⟨B, ρ, q, R, t, k⟩ => by
    unfold dN at t
    split at t
    · rename_i c e
      obtain ⟨w, e1, e2⟩ := R.cel i c e
      exact ⟨w, e1, k _ _ _ _ t .refl R e1⟩
    · exact t.elim
def dC (d : PyData) : DT := fun ρ q => q (.vl d) ρ
theorem do_c {z : V} {d : PyData} (h : PE X e (tC z)) (s : Sc z d) : DO X e (dC d) :=
  PE.imp h fun σ H Q ⟨B, ρ, q, R, t, k⟩ => k _ _ _ _ t .refl R (s _ _)
theorem do_int {i : Int} {j} : DO X (.Constant (.int i) j pos) (dC (.int i)) := do_c pe_int (Sc.int i)
theorem do_strL {x : Str} {j} (l : List Nat) (h : x = mk l) : DO X (.Constant (.str x) j pos) (dC (S l)) := by subst h; exact do_c pe_str (Sc.str _)
theorem do_str {x : Str} {j} : DO X (.Constant (.str x) j pos) (dC (.str x)) := do_c pe_str (Sc.str x)
theorem do_bl {x : Bool} {j} : DO X (.Constant (.bool x) j pos) (dC (.bool x)) := do_c pe_bl (Sc.bl x)
theorem do_non {j} : DO X (.Constant .none j pos) (dC .none) := do_c pe_non Sc.non

/-! ### two operands, a value out that lies nowhere -/
abbrev D2 := PyData → PyData → (PyData → Prop) → Prop
/-- r asks no more than g -/
def Fit2 (r : R2) (g : D2) : Prop := ∀ (O : Addr → Prop) (H : Hp) (x y : V) (d e : PyData) (q : PyData → Prop) (Q : VK), (∀ a, O a → ∃ o, H a = some o) → RdB O H x d → RdB O H y e → g d e q →
  (∀ z dz H', q dz → Same H H' → Is O H' z dz → Q z H') → r x y H Q
def d2 (g : D2) (ta tb : DT) : DT := fun ρ q => ta ρ fun oa ρ1 => tb ρ1 fun ob ρ2 => oa.rd ρ2 fun d => ob.rd ρ2 fun e => g d e fun r => q (.vl r) ρ2
theorem up2 {r : R2} {g : D2} (f : Fit2 r g) {σ : L2.St} {H : Hp} {Q : VK} (h : upO (d2 g ta tb) σ H Q) : tOp r (upO ta) (upO tb) σ H Q := by
  obtain ⟨B, ρ, q, R, t, k⟩ := h
  refine ⟨B, ρ, _, R, t, fun oa ρ1 v1 H1 t1 m1 R1 i1 => ⟨B, ρ1, _, R1, t1, fun ob ρ2 v2 H2 t2 m2 R2' i2 => ?_⟩⟩
  obtain ⟨d, t3, r3⟩ := (i1.adv m2).rd R2' t2
  obtain ⟨e, t4, r4⟩ := i2.rd R2' t3
  exact f _ H2 v1 v2 d e _ _ R2'.owt r3 r4 t4 fun z dz H' hq hs hz => k _ _ _ _ hq ((m1.trans m2).trans (.same hs)) (R2'.same hs) hz
theorem do_op {op : Operator} {r : R2} {g : D2} (ho : OpR X (binaryOp op) r) (f : Fit2 r g) (ha : DO X a ta) (hb : DO X b tb) : DO X (.BinOp a op b pos) (d2 g ta tb) := PE.imp (pe_op ho ha hb) fun _ _ _ h => up2 f h
theorem do_cmp {op : CmpOp} {r : R2} {g : D2} (ho : OpR X (compareOp op) r) (f : Fit2 r g) (ha : DO X a ta) (hb : DO X b tb) (hm : behindInMarks op b = false) : DO X (.Compare a [op] [b] pos) (d2 g ta tb) := PE.imp (pe_cmpR ho ha hb hm) fun _ _ _ h => up2 f h
/-- one operand -/
abbrev D1 := PyData → (PyData → Prop) → Prop
def Fit1 (r : V → Hp → VK → Prop) (g : D1) : Prop := ∀ (O : Addr → Prop) (H : Hp) (x : V) (d : PyData) (q : PyData → Prop) (Q : VK), (∀ a, O a → ∃ o, H a = some o) → RdB O H x d → g d q →
  (∀ z dz H', q dz → Same H H' → Is O H' z dz → Q z H') → r x H Q
def d1 (g : D1) (ta : DT) : DT := fun ρ q => ta ρ fun oa ρ1 => oa.rd ρ1 fun d => g d fun r => q (.vl r) ρ1
theorem do_un {op : UnaryOp} {r : V → Hp → VK → Prop} {g : D1} (ho : UnR X (unaryOp op) r) (f : Fit1 r g) (ha : DO X a ta) : DO X (.UnaryOp op a pos) (d1 g ta) := PE.imp (pe_un ho ha) fun σ H Q ⟨B, ρ, q, R, t, k⟩ => by
  refine ⟨B, ρ, _, R, t, fun oa ρ1 v1 H1 t1 m1 R1 i1 => ?_⟩
  obtain ⟨d, t3, r3⟩ := i1.rd R1 t1
  exact f _ H1 v1 d _ _ R1.owt r3 t3 fun z dz H' hq hs hz => k _ _ _ _ hq (m1.trans (.same hs)) (R1.same hs) hz

/-- two ints -/
def gII (C : Int → Int → Prop) (g : Int → Int → PyData) : D2 := fun d e q => match d, e with
  | .int i, .int j => C i j ∧ q (g i j)
  | _, _ => False
theorem fit_rI {C : Int → Int → Prop} {g : Int → Int → Int} : Fit2 (rI C fun i j => .int (g i j)) (gII C fun i j => .int (g i j)) := fun O H x y d e q Q _ hx hy h k => by
  unfold gII at h
  split at h
  · rename_i i j
    exact ⟨i, j, hx.int, hy.int, h.1, k _ _ _ h.2 (Same.refl _) (.int _)⟩
  · exact h.elim
theorem fit_rI0 {g : Int → Int → Int} : Fit2 (rI0 fun i j => .int (g i j)) (gII (fun _ _ => True) fun i j => .int (g i j)) := fun O H x y d e q Q _ hx hy h k => by
  unfold gII at h
  split at h
  · rename_i i j
    exact ⟨i, j, hx.int, hy.int, k _ _ _ h.2 (Same.refl _) (.int _)⟩
  · exact h.elim
theorem fit_rB0 {g : Int → Int → Bool} : Fit2 (rI0 fun i j => .bl (g i j)) (gII (fun _ _ => True) fun i j => .bool (g i j)) := fun O H x y d e q Q _ hx hy h k => by
  unfold gII at h
  split at h
  · rename_i i j
    exact ⟨i, j, hx.int, hy.int, k _ _ _ h.2 (Same.refl _) (.bl _)⟩
  · exact h.elim
abbrev gSub : D2 := gII (fun _ _ => True) fun i j => .int (i - j)
/-- a factor below 2 ^ 63, or both together less than a million bits -/
def CMulA (i j : Int) : Prop := i.natAbs < 9223372036854775808 ∨ j.natAbs < 9223372036854775808 ∨ CMulW i j
theorem CMulA.ok {i j : Int} (h : CMulA i j) : IntMulOk i j := by
  rcases h with h | h | h
  · exact .of_left (intBits_le_64 (by omega) (by omega))
  · exact .of_right (intBits_le_64 (by omega) (by omega))
  · exact h.ok
abbrev gMul : D2 := gII CMulA fun i j => .int (i * j)
abbrev gDiv : D2 := gII CDivW fun i j => .int (i / j)
abbrev gMod : D2 := gII (fun _ j => 0 < j) fun i j => .int (i % j)
abbrev gLt : D2 := gII (fun _ _ => True) fun i j => .bool (decide (i < j))
abbrev gLe : D2 := gII (fun _ _ => True) fun i j => .bool (decide (i ≤ j))
abbrev gGt : D2 := gII (fun _ _ => True) fun i j => .bool (decide (j < i))
abbrev gGe : D2 := gII (fun _ _ => True) fun i j => .bool (decide (j ≤ i))
/-- + of ints or of texts -/
def gAdd : D2 := fun d e q => match d, e with
  | .int i, .int j => q (.int (i + j))
  | .str x, .str y => (L x).length + (L y).length ≤ 16777216 ∧ q (S (L x ++ L y))
  | _, _ => False
theorem op_addIS : OpR X (binaryOp .Add) (fun x y H Q => (rI0 (fun i j => .int (i + j)) x y H Q) ∨ (∃ i j, x = .str i ∧ y = .str j ∧ i.length + j.length ≤ sizeLine ∧ Q (.str (i ++ j)) H)) := OpR.or op_add op_add_str
theorem fit_add : Fit2 (fun x y H Q => (rI0 (fun i j => V.int (i + j)) x y H Q) ∨ (∃ i j, x = .str i ∧ y = .str j ∧ i.length + j.length ≤ sizeLine ∧ Q (.str (i ++ j)) H)) gAdd := fun O H x y d e q Q _ hx hy h k => by
  unfold gAdd at h
  split at h
  · rename_i i j
    exact .inl ⟨i, j, hx.int, hy.int, k _ _ _ h (Same.refl _) (.int _)⟩
  · rename_i i j
    refine .inr ⟨i, j, hx.str, hy.str, ?_, k _ _ _ h.2 (Same.refl _) ?_⟩
    · rw [sizeLine_eq, ← L_len, ← L_len]
      exact h.1
    · rw [← L_app]
      exact .str _
  · exact h.elim
theorem do_add (ha : DO X a ta) (hb : DO X b tb) : DO X (.BinOp a .Add b pos) (d2 gAdd ta tb) := do_op op_addIS fit_add ha hb
theorem do_sub (ha : DO X a ta) (hb : DO X b tb) : DO X (.BinOp a .Sub b pos) (d2 (gII (fun _ _ => True) fun i j => .int (i - j)) ta tb) := do_op op_sub fit_rI0 ha hb
theorem op_mulA {X : Cx} : OpR X (binaryOp .Mult) (rI CMulA fun i j => .int (i * j)) := opI fun _ _ _ _ _ _ _ hc q => mul_int q hc.ok
theorem do_mul (ha : DO X a ta) (hb : DO X b tb) : DO X (.BinOp a .Mult b pos) (d2 (gII CMulA fun i j => .int (i * j)) ta tb) := do_op op_mulA fit_rI ha hb
theorem do_fdiv (ha : DO X a ta) (hb : DO X b tb) : DO X (.BinOp a .FloorDiv b pos) (d2 (gII CDivW fun i j => .int (i / j)) ta tb) := do_op op_fdivW fit_rI ha hb
theorem do_mod (ha : DO X a ta) (hb : DO X b tb) : DO X (.BinOp a .Mod b pos) (d2 (gII (fun _ j => 0 < j) fun i j => .int (i % j)) ta tb) := do_op op_mod fit_rI ha hb
theorem do_lt (ha : DO X a ta) (hb : DO X b tb) : DO X (.Compare a [.Lt] [b] pos) (d2 (gII (fun _ _ => True) fun i j => .bool (decide (i < j))) ta tb) := do_cmp op_lt fit_rB0 ha hb (nomark _)
theorem do_le (ha : DO X a ta) (hb : DO X b tb) : DO X (.Compare a [.LtE] [b] pos) (d2 (gII (fun _ _ => True) fun i j => .bool (decide (i ≤ j))) ta tb) := do_cmp op_le fit_rB0 ha hb (nomark _)
theorem do_gt (ha : DO X a ta) (hb : DO X b tb) : DO X (.Compare a [.Gt] [b] pos) (d2 (gII (fun _ _ => True) fun i j => .bool (decide (j < i))) ta tb) := do_cmp op_gt fit_rB0 ha hb (nomark _)
theorem do_ge (ha : DO X a ta) (hb : DO X b tb) : DO X (.Compare a [.GtE] [b] pos) (d2 (gII (fun _ _ => True) fun i j => .bool (decide (j ≤ i))) ta tb) := do_cmp op_ge fit_rB0 ha hb (nomark _)
def gNeg : D1 := fun d q => match d with
  | .int i => q (.int (-i))
  | _ => False
theorem do_neg (ha : DO X a ta) : DO X (.UnaryOp .USub a pos) (d1 gNeg ta) := do_un un_neg (fun O H x d q Q _ hx h k => by
  unfold gNeg at h
  split at h
  · rename_i i
    exact ⟨i, hx.int, k _ _ _ h (Same.refl _) (.int _)⟩
  · exact h.elim) ha
/-- == and != of data at any depth, is None -/
def Fit2X (r : R2) (g : D2) : Prop := ∀ (H : Hp) (x y : V) (d e : PyData) (q : PyData → Prop) (Q : VK), RdX H x d → RdX H y e → g d e q → (∀ z dz, q dz → Sc z dz → Q z H) → r x y H Q
def d2x (g : D2) (ta tb : DT) : DT := fun ρ q => ta ρ fun oa ρ1 => tb ρ1 fun ob ρ2 => oa.rdx ρ2 fun d => ob.rdx ρ2 fun e => g d e fun r => q (.vl r) ρ2
theorem up2x {r : R2} {g : D2} (f : Fit2X r g) {σ : L2.St} {H : Hp} {Q : VK} (h : upO (d2x g ta tb) σ H Q) : tOp r (upO ta) (upO tb) σ H Q := by
  obtain ⟨B, ρ, q, R, t, k⟩ := h
  refine ⟨B, ρ, _, R, t, fun oa ρ1 v1 H1 t1 m1 R1 i1 => ⟨B, ρ1, _, R1, t1, fun ob ρ2 v2 H2 t2 m2 R2' i2 => ?_⟩⟩
  obtain ⟨d, t3, r3⟩ := (i1.adv m2).rdx R2' t2
  obtain ⟨e, t4, r4⟩ := i2.rdx R2' t3
  exact f H2 v1 v2 d e _ _ r3 r4 t4 fun z dz hq hz => k _ _ _ _ hq (m1.trans m2) R2' (hz _ _)
theorem do_cmpx {op : CmpOp} {r : R2} {g : D2} (ho : OpR X (compareOp op) r) (f : Fit2X r g) (ha : DO X a ta) (hb : DO X b tb) (hm : behindInMarks op b = false) : DO X (.Compare a [op] [b] pos) (d2x g ta tb) := PE.imp (pe_cmpR ho ha hb hm) fun _ _ _ h => up2x f h
theorem RdX.dp {K : PySem.W.Frag} {H : Hp} : ∀ {v : V} {d : PyData}, d.canLay0 = true → RdX H v d → Dp K H v d := by
  intro v d c ⟨O, h⟩
  revert c
  induction h using Is.rec (motive_2 := fun xs ds _ => PyData.canLayAll0 ds = true → DpAll K H xs ds) (motive_3 := fun xs ds _ => True) (motive_4 := fun xs ds _ => True) with
  | non => exact fun _ => .non
  | bl b => exact fun _ => .bl b
  | int i => exact fun _ => .int i
  | str x => exact fun _ => .str x
  | lst n r _ ih => exact fun c => .lst (.inl (.inl r)) (ih c)
  | tup r _ ih => exact fun c => .tup (.inl (.inl r)) (ih c)
  | dK n r _ ih => exact fun c => nomatch c
  | dT n r _ ih => exact fun c => nomatch c
  | nil => first | exact DpAll.nil | exact fun _ => DpAll.nil
  | cons _ _ h1 h2 =>
    rename_i f
    simp only [PyData.canLayAll0, Bool.and_eq_true] at f
    exact .cons (h1 f.1) (h2 f.2)
  | nilK => trivial
  | consK _ _ _ _ => trivial
  | nilT => trivial
  | consT _ _ _ _ => trivial
def gEq (f : Bool → Bool) : D2 := fun d e q => SeqAt.shaped d = true ∧ SeqAt.shaped e = true ∧ q (.bool (f (PyData.eqv d e)))
theorem fit_eq {K : PySem.W.Frag} : Fit2X (rEqD K) (gEq id) := fun H x y d e q Q hx hy ⟨h1, h2, h3⟩ k => ⟨d, e, hx.dp (SeqAt.canLay_of_shaped h1), hy.dp (SeqAt.canLay_of_shaped h2), h1, h2, k _ _ h3 (Sc.bl _)⟩
theorem fit_ne {K : PySem.W.Frag} : Fit2X (rNeD K) (gEq (!·)) := fun H x y d e q Q hx hy ⟨h1, h2, h3⟩ k => ⟨d, e, hx.dp (SeqAt.canLay_of_shaped h1), hy.dp (SeqAt.canLay_of_shaped h2), h1, h2, k _ _ h3 (Sc.bl _)⟩
theorem do_eq (hu : X.A.units + 64 < cLine) (ha : DO X a ta) (hb : DO X b tb) : DO X (.Compare a [.Eq] [b] pos) (d2x (gEq id) ta tb) := do_cmpx (op_eqD hu) fit_eq ha hb (nomark _)
theorem do_ne (hu : X.A.units + 64 < cLine) (ha : DO X a ta) (hb : DO X b tb) : DO X (.Compare a [.NotEq] [b] pos) (d2x (gEq (!·)) ta tb) := do_cmpx (op_neD hu) fit_ne ha hb (nomark _)
/-- == and != of two texts -/
def gEqS (f : Bool → Bool) : D2 := fun d e q => match d, e with
  | .str x, .str y => q (.bool (f (decide (x = y))))
  | _, _ => False
theorem decV {x y : Str} : decide (V.str x = V.str y) = decide (x = y) := decide_eq_decide.mpr ⟨fun h => by injection h, fun h => by rw [h]⟩
theorem fit_eqS : Fit2 rEq (gEqS id) := fun O H x y d e q Q _ hx hy h k => by
  unfold gEqS at h
  split at h
  · refine ⟨by rw [hx.str, hy.str]; rfl, ?_⟩
    rw [hx.str, hy.str, decV]
    exact k _ _ _ h (Same.refl _) (.bl _)
  · exact h.elim
theorem fit_neS : Fit2 rNe (gEqS (!·)) := fun O H x y d e q Q _ hx hy h k => by
  unfold gEqS at h
  split at h
  · refine ⟨by rw [hx.str, hy.str]; rfl, ?_⟩
    rw [hx.str, hy.str, decV]
    exact k _ _ _ h (Same.refl _) (.bl _)
  · exact h.elim
theorem do_eqS (ha : DO X a ta) (hb : DO X b tb) : DO X (.Compare a [.Eq] [b] pos) (d2 (gEqS id) ta tb) := do_cmp op_eq fit_eqS ha hb (nomark _)
theorem do_neS (ha : DO X a ta) (hb : DO X b tb) : DO X (.Compare a [.NotEq] [b] pos) (d2 (gEqS (!·)) ta tb) := do_cmp op_ne fit_neS ha hb (nomark _)
/-- is None -/
def isNone : PyData → Bool
  | .none => true
  | _ => false
theorem RdX.isNone {H : Hp} {v : V} {d : PyData} (h : RdX H v d) : decide (v = .non) = isNone d := by
  obtain ⟨O, h⟩ := h
  cases h <;> rfl
def gIs (f : Bool → Bool) : D2 := fun d e q => isNone e = true ∧ q (.bool (f (isNone d)))
theorem fit_is : Fit2X (fun x y H Q => y = .non ∧ Q (.bl (decide (x = .non))) H) (gIs id) := fun H x y d e q Q hx hy h k => by
  refine ⟨of_decide_eq_true (hy.isNone.trans h.1), ?_⟩
  rw [hx.isNone]
  exact k _ _ h.2 (Sc.bl _)
theorem fit_isnot : Fit2X (fun x y H Q => y = .non ∧ Q (.bl (!decide (x = .non))) H) (gIs (!·)) := fun H x y d e q Q hx hy h k => by
  refine ⟨of_decide_eq_true (hy.isNone.trans h.1), ?_⟩
  rw [hx.isNone]
  exact k _ _ h.2 (Sc.bl _)
theorem do_is (ha : DO X a ta) (hb : DO X b tb) : DO X (.Compare a [.Is] [b] pos) (d2x (gIs id) ta tb) := do_cmpx op_isN fit_is ha hb (nomark _)
theorem do_isnot (ha : DO X a ta) (hb : DO X b tb) : DO X (.Compare a [.IsNot] [b] pos) (d2x (gIs (!·)) ta tb) := do_cmpx op_notN fit_isnot ha hb (nomark _)

/-! ### tests -/
abbrev DTT := DEnv → (Bool → DEnv → Prop) → Prop
def upT (t : DTT) : TT := fun σ H Q => ∃ B ρ q, Rep B ρ σ H ∧ t ρ q ∧ ∀ b ρ' H', q b ρ' → Adv (OW B ρ) (OW B ρ') H H' → Rep B ρ' σ H' → Q b H'
abbrev DP (X : Cx) (e : Expr) (t : DTT) : Prop := PT X e (upT t)
/-- a value that is True or False, as a test -/
def dB (t : DT) : DTT := fun ρ q => t ρ fun o ρ' => o.rd ρ' fun d => match d with
  | .bool b => q b ρ'
  | _ => False
theorem upB {t : DT} {σ : L2.St} {H : Hp} {Q : Bool → Hp → Prop} (h : upT (dB t) σ H Q) : upO t σ H fun x H1 => ∃ c, x = .bl c ∧ Q c H1 := by
  obtain ⟨B, ρ, q, R, t, k⟩ := h
  refine ⟨B, ρ, _, R, t, fun oa ρ1 v1 H1 t1 m1 R1 i1 => ?_⟩
  obtain ⟨d, t3, r3⟩ := i1.rd R1 t1
  split at t3
  · rename_i b
    exact ⟨b, r3.bl, k _ _ _ t3 m1 R1⟩
  · exact t3.elim
theorem dp_val (h : DO X e ta) (he : ∀ whole, isTrue e X.env whole = (do let v ← whole; standAt e.pos; holding [v] (truthy v)) := by intro _; rfl) : DP X e (dB ta) := PT.imp (pt_val h he) fun _ _ _ h => upB h
theorem dp_cmp {op : CmpOp} {r : R2} {g : D2} (ho : OpR X (compareOp op) r) (f : Fit2 r g) (ha : DO X a ta) (hb : DO X b tb) (hm : behindInMarks op b = false) : DP X (.Compare a [op] [b] pos) (dB (d2 g ta tb)) := PT.imp (pt_cmpR ho ha hb hm) fun _ _ _ h => by
  have h' := upB h
  exact up2 f h'
theorem dp_lt (ha : DO X a ta) (hb : DO X b tb) : DP X (.Compare a [.Lt] [b] pos) (dB (d2 (gII (fun _ _ => True) fun i j => .bool (decide (i < j))) ta tb)) := dp_cmp op_lt fit_rB0 ha hb (nomark _)
theorem dp_le (ha : DO X a ta) (hb : DO X b tb) : DP X (.Compare a [.LtE] [b] pos) (dB (d2 (gII (fun _ _ => True) fun i j => .bool (decide (i ≤ j))) ta tb)) := dp_cmp op_le fit_rB0 ha hb (nomark _)
theorem dp_gt (ha : DO X a ta) (hb : DO X b tb) : DP X (.Compare a [.Gt] [b] pos) (dB (d2 (gII (fun _ _ => True) fun i j => .bool (decide (j < i))) ta tb)) := dp_cmp op_gt fit_rB0 ha hb (nomark _)
theorem dp_ge (ha : DO X a ta) (hb : DO X b tb) : DP X (.Compare a [.GtE] [b] pos) (dB (d2 (gII (fun _ _ => True) fun i j => .bool (decide (j ≤ i))) ta tb)) := dp_cmp op_ge fit_rB0 ha hb (nomark _)
theorem dp_cmpx {op : CmpOp} {r : R2} {g : D2} (ho : OpR X (compareOp op) r) (f : Fit2X r g) (ha : DO X a ta) (hb : DO X b tb) (hm : behindInMarks op b = false) : DP X (.Compare a [op] [b] pos) (dB (d2x g ta tb)) := PT.imp (pt_cmpR ho ha hb hm) fun _ _ _ h => by
  have h' := upB h
  exact up2x f h'
theorem dp_eq (hu : X.A.units + 64 < cLine) (ha : DO X a ta) (hb : DO X b tb) : DP X (.Compare a [.Eq] [b] pos) (dB (d2x (gEq id) ta tb)) := dp_cmpx (op_eqD hu) fit_eq ha hb (nomark _)
theorem dp_ne (hu : X.A.units + 64 < cLine) (ha : DO X a ta) (hb : DO X b tb) : DP X (.Compare a [.NotEq] [b] pos) (dB (d2x (gEq (!·)) ta tb)) := dp_cmpx (op_neD hu) fit_ne ha hb (nomark _)
theorem dp_eqS (ha : DO X a ta) (hb : DO X b tb) : DP X (.Compare a [.Eq] [b] pos) (dB (d2 (gEqS id) ta tb)) := dp_cmp op_eq fit_eqS ha hb (nomark _)
theorem dp_neS (ha : DO X a ta) (hb : DO X b tb) : DP X (.Compare a [.NotEq] [b] pos) (dB (d2 (gEqS (!·)) ta tb)) := dp_cmp op_ne fit_neS ha hb (nomark _)
theorem dp_is (ha : DO X a ta) (hb : DO X b tb) : DP X (.Compare a [.Is] [b] pos) (dB (d2x (gIs id) ta tb)) := dp_cmpx op_isN fit_is ha hb (nomark _)
theorem dp_isnot (ha : DO X a ta) (hb : DO X b tb) : DP X (.Compare a [.IsNot] [b] pos) (dB (d2x (gIs (!·)) ta tb)) := dp_cmpx op_notN fit_isnot ha hb (nomark _)
/-! and, or, not as tests -/
variable {sa sb : DTT} {rest : List Expr}
def dNot (t : DTT) : DTT := fun ρ q => t ρ fun b ρ' => q (!b) ρ'
def dAnd (t u : DTT) : DTT := fun ρ q => t ρ fun b ρ' => if b = true then u ρ' q else q false ρ'
def dOr (t u : DTT) : DTT := fun ρ q => t ρ fun b ρ' => if b = true then q true ρ' else u ρ' q
theorem dp_not (ha : DP X a sa) : DP X (.UnaryOp .Not a pos) (dNot sa) := PT.imp (pt_not ha) fun σ H Q ⟨B, ρ, q, R, t, k⟩ => ⟨B, ρ, _, R, t, fun b ρ1 H1 t1 m1 R1 => k _ _ _ t1 m1 R1⟩
theorem upAnd {t u : DTT} {σ : L2.St} {H : Hp} {Q : Bool → Hp → Prop} (h : upT (dAnd t u) σ H Q) : tAnd (upT t) (upT u) σ H Q := by
  obtain ⟨B, ρ, q, R, t, k⟩ := h
  refine ⟨B, ρ, _, R, t, fun b ρ1 H1 t1 m1 R1 => ?_⟩
  cases b with
  | true =>
    rw [if_pos rfl] at t1 ⊢
    exact ⟨B, ρ1, q, R1, t1, fun b ρ2 H2 t2 m2 R2 => k _ _ _ t2 (m1.trans m2) R2⟩
  | false =>
    rw [if_neg Bool.false_ne_true] at t1 ⊢
    exact k _ _ _ t1 m1 R1
theorem upOr {t u : DTT} {σ : L2.St} {H : Hp} {Q : Bool → Hp → Prop} (h : upT (dOr t u) σ H Q) : tOr (upT t) (upT u) σ H Q := by
  obtain ⟨B, ρ, q, R, t, k⟩ := h
  refine ⟨B, ρ, _, R, t, fun b ρ1 H1 t1 m1 R1 => ?_⟩
  cases b with
  | false =>
    rw [if_neg Bool.false_ne_true] at t1 ⊢
    exact ⟨B, ρ1, q, R1, t1, fun b ρ2 H2 t2 m2 R2 => k _ _ _ t2 (m1.trans m2) R2⟩
  | true =>
    rw [if_pos rfl] at t1 ⊢
    exact k _ _ _ t1 m1 R1
abbrev DW (X : Cx) (e : Expr) (t : DTT) : Prop := PW X e (upT t)
theorem PW.imp {X : Cx} {e : Expr} {t t' : TT} (h : PW X e t) (i : ∀ σ H Q, t' σ H Q → t σ H Q) : PW X e t' := ⟨fun wh pins s σ H Q I hq => h.run wh pins s σ H Q I (i σ H Q hq)⟩
theorem dw_and1 (ha : DP X a sa) : DW X (.BoolOp .And [a] pos) sa := pw_and1 ha
theorem dw_or1 (ha : DP X a sa) : DW X (.BoolOp .Or [a] pos) sa := pw_or1 ha
theorem dw_and (ha : DP X a sa) (hb : DW X (.BoolOp .And (b :: rest) pos) sb) : DW X (.BoolOp .And (a :: b :: rest) pos) (dAnd sa sb) := PW.imp (pw_and ha hb) fun _ _ _ h => upAnd h
theorem dw_or (ha : DP X a sa) (hb : DW X (.BoolOp .Or (b :: rest) pos) sb) : DW X (.BoolOp .Or (a :: b :: rest) pos) (dOr sa sb) := PW.imp (pw_or ha hb) fun _ _ _ h => upOr h
theorem dp_w (h : DW X e sa) : DP X e sa := h.pt
/-- a if t else b -/
def dIf (t : DTT) (ta tb : DT) : DT := fun ρ q => t ρ fun b ρ' => if b = true then ta ρ' q else tb ρ' q
theorem do_if (hc : DP X c sa) (ha : DO X a ta) (hb : DO X b tb) : DO X (.IfExp c a b pos) (dIf sa ta tb) := PE.imp (pe_ifExp hc ha hb) fun σ H Q ⟨B, ρ, q, R, t, k⟩ => by
  refine ⟨B, ρ, _, R, t, fun b ρ1 H1 t1 m1 R1 => ?_⟩
  cases b with
  | true =>
    rw [if_pos rfl] at t1 ⊢
    exact ⟨B, ρ1, q, R1, t1, fun o ρ2 v H2 t2 m2 R2 i2 => k _ _ _ _ t2 (m1.trans m2) R2 i2⟩
  | false =>
    rw [if_neg Bool.false_ne_true] at t1 ⊢
    exact ⟨B, ρ1, q, R1, t1, fun o ρ2 v H2 t2 m2 R2 i2 => k _ _ _ _ t2 (m1.trans m2) R2 i2⟩
/-- and, or as values: all but the last True or False -/
def dAndV (ta tb : DT) : DT := fun ρ q => ta ρ fun o ρ' => o.rd ρ' fun d => match d with
  | .bool b => if b = true then tb ρ' q else q (.vl (.bool false)) ρ'
  | _ => False
def dOrV (ta tb : DT) : DT := fun ρ q => ta ρ fun o ρ' => o.rd ρ' fun d => match d with
  | .bool b => if b = true then q (.vl (.bool true)) ρ' else tb ρ' q
  | _ => False
theorem do_one {op} (ha : DO X a ta) : DO X (.BoolOp op [a] pos) ta := pe_one ha
theorem do_and (ha : DO X a ta) (hb : DO X (.BoolOp .And (b :: rest) pos) tb) : DO X (.BoolOp .And (a :: b :: rest) pos) (dAndV ta tb) := PE.imp (pe_and ha hb) fun σ H Q ⟨B, ρ, q, R, t, k⟩ => by
  refine ⟨B, ρ, _, R, t, fun o ρ1 v H1 t1 m1 R1 i1 => ?_⟩
  obtain ⟨d, t3, r3⟩ := i1.rd R1 t1
  split at t3
  · rename_i b
    refine ⟨b, r3.bl, ?_⟩
    cases b with
    | true =>
      rw [if_pos rfl] at t3 ⊢
      exact ⟨B, ρ1, q, R1, t3, fun o ρ2 v H2 t2 m2 R2 i2 => k _ _ _ _ t2 (m1.trans m2) R2 i2⟩
    | false =>
      rw [if_neg Bool.false_ne_true] at t3 ⊢
      exact k _ _ _ _ t3 m1 R1 (.bl false)
  · exact t3.elim
theorem do_or (ha : DO X a ta) (hb : DO X (.BoolOp .Or (b :: rest) pos) tb) : DO X (.BoolOp .Or (a :: b :: rest) pos) (dOrV ta tb) := PE.imp (pe_or ha hb) fun σ H Q ⟨B, ρ, q, R, t, k⟩ => by
  refine ⟨B, ρ, _, R, t, fun o ρ1 v H1 t1 m1 R1 i1 => ?_⟩
  obtain ⟨d, t3, r3⟩ := i1.rd R1 t1
  split at t3
  · rename_i b
    refine ⟨b, r3.bl, ?_⟩
    cases b with
    | false =>
      rw [if_neg Bool.false_ne_true] at t3 ⊢
      exact ⟨B, ρ1, q, R1, t3, fun o ρ2 v H2 t2 m2 R2 i2 => k _ _ _ _ t2 (m1.trans m2) R2 i2⟩
    | true =>
      rw [if_pos rfl] at t3 ⊢
      exact k _ _ _ _ t3 m1 R1 (.bl true)
  · exact t3.elim
/-- not, as a value -/
def gNot : D1 := fun d q => match d with
  | .bool b => q (.bool (!b))
  | _ => False
theorem do_not (ha : DO X a ta) : DO X (.UnaryOp .Not a pos) (d1 gNot ta) := PE.imp (pe_not ha) fun σ H Q ⟨B, ρ, q, R, t, k⟩ => by
  refine ⟨B, ρ, _, R, t, fun o ρ1 v H1 t1 m1 R1 i1 => ?_⟩
  obtain ⟨d, t3, r3⟩ := i1.rd R1 t1
  unfold gNot at t3
  split at t3
  · rename_i b
    exact ⟨b, r3.bl, k _ _ _ _ t3 m1 R1 (.bl _)⟩
  · exact t3.elim
/-- a < b < c -/
def dCh (g h : D2) (ta tb tc : DT) : DT := fun ρ q => ta ρ fun oa ρ1 => tb ρ1 fun ob ρ2 => oa.rd ρ2 fun d => ob.rd ρ2 fun e => g d e fun r => match r with
  | .bool b => if b = true then tc ρ2 (fun oc ρ3 => ob.rd ρ3 fun e' => oc.rd ρ3 fun f => h e' f fun r' => q (.vl r') ρ3) else q (.vl (.bool false)) ρ2
  | _ => False
theorem upCh {r r' : R2} {g g' : D2} (f : Fit2 r g) (f' : Fit2 r' g') {σ : L2.St} {H : Hp} {Q : VK} (h : upO (dCh g g' ta tb tc) σ H Q) : tChain r r' (upO ta) (upO tb) (upO tc) σ H Q := by
  obtain ⟨B, ρ, q, R, t, k⟩ := h
  refine ⟨B, ρ, _, R, t, fun oa ρ1 v1 H1 t1 m1 R1 i1 => ⟨B, ρ1, _, R1, t1, fun ob ρ2 v2 H2 t2 m2 R2' i2 => ?_⟩⟩
  obtain ⟨d, t3, r3⟩ := (i1.adv m2).rd R2' t2
  obtain ⟨e, t4, r4⟩ := i2.rd R2' t3
  refine f _ H2 v1 v2 d e _ _ R2'.owt r3 r4 t4 fun z dz H2' hq hs hz => ?_
  have R2'' := R2'.same hs
  have m12 := (m1.trans m2).trans (Adv.same hs)
  split at hq
  · rename_i b
    refine ⟨b, hz.bl', ?_⟩
    cases b with
    | false =>
      rw [if_neg Bool.false_ne_true] at hq ⊢
      exact k _ _ _ _ hq m12 R2'' (.bl false)
    | true =>
      rw [if_pos rfl] at hq ⊢
      refine ⟨B, ρ2, _, R2'', hq, fun oc ρ3 v3 H3 t5 m3 R3 i3 => ?_⟩
      obtain ⟨e', t6, r6⟩ := ((i2.adv (Adv.same hs)).adv m3).rd R3 t5
      obtain ⟨ff, t7, r7⟩ := i3.rd R3 t6
      exact f' _ H3 v2 v3 e' ff _ _ R3.owt r6 r7 t7 fun z dz H' hq hs3 hz => k _ _ _ _ hq ((m12.trans m3).trans (.same hs3)) (R3.same hs3) hz
  · exact hq.elim
theorem do_chain {op op' : CmpOp} {r r' : R2} {g g' : D2} (ho : OpR X (compareOp op) r) (ho' : OpR X (compareOp op') r') (f : Fit2 r g) (f' : Fit2 r' g') (ha : DO X a ta) (hb : DO X b tb) (hc : DO X c tc)
    (hm : lastMarks [op, op'] [b, c] = false := by with_unfolding_all rfl) : DO X (.Compare a [op, op'] [b, c] pos) (dCh g g' ta tb tc) := PE.imp (pe_chain ho ho' ha hb hc hm) fun _ _ _ h => upCh f f' h
theorem dp_chain {op op' : CmpOp} {r r' : R2} {g g' : D2} (ho : OpR X (compareOp op) r) (ho' : OpR X (compareOp op') r') (f : Fit2 r g) (f' : Fit2 r' g') (ha : DO X a ta) (hb : DO X b tb) (hc : DO X c tc)
    (hm : lastMarks [op, op'] [b, c] = false := by with_unfolding_all rfl) : DP X (.Compare a [op, op'] [b, c] pos) (dB (dCh g g' ta tb tc)) := PT.imp (pt_chain ho ho' ha hb hc hm) fun _ _ _ h => upCh f f' (upB h)
end
end DL
namespace DL
open PySem PySem.Spec PyProof.Rows L2

/-! ### argument lists -/
abbrev DTA := DEnv → (List OV → DEnv → Prop) → Prop
abbrev OAll (B : Bs) (ρ : DEnv) (σ : L2.St) (H : Hp) : List V → List OV → Prop := Paired (OIs B ρ σ H)
def upA (t : DTA) : TA := fun σ H Q => ∃ B ρ q, Rep B ρ σ H ∧ t ρ q ∧ ∀ os ρ' vs H', q os ρ' → Adv (OW B ρ) (OW B ρ') H H' → Rep B ρ' σ H' → OAll B ρ' σ H' vs os → Q vs H'
abbrev DA (X : Cx) (es : List Expr) (t : DTA) : Prop := PA X es (upA t)
theorem OAll.adv {B : Bs} {ρ ρ' : DEnv} {σ : L2.St} {H H' : Hp} (m : Adv (OW B ρ) (OW B ρ') H H') : ∀ {vs : List V} {os : List OV}, OAll B ρ σ H vs os → OAll B ρ' σ H' vs os
  | _, _, .nil => .nil
  | _, _, .cons h t => .cons (h.adv m) (OAll.adv m t)
def rdAll : List OV → DEnv → (List PyData → Prop) → Prop
  | [], _, k => k []
  | o :: os, ρ, k => o.rd ρ fun d => rdAll os ρ fun ds => k (d :: ds)
def tkAll : List OV → DEnv → (List PyData → DEnv → Prop) → Prop
  | [], ρ, k => k [] ρ
  | o :: os, ρ, k => o.tk ρ fun d ρ' => tkAll os ρ' fun ds ρ'' => k (d :: ds) ρ''
abbrev RdAll (O : Addr → Prop) (H : Hp) : List V → List PyData → Prop := Paired (RdB O H)
theorem OAll.rd {B : Bs} {ρ : DEnv} {σ : L2.St} {H : Hp} (R : Rep B ρ σ H) : ∀ {vs : List V} {os : List OV} {k : List PyData → Prop}, OAll B ρ σ H vs os → rdAll os ρ k → ∃ ds, k ds ∧ RdAll (OW B ρ) H vs ds
  | _, _, _, .nil, h => ⟨[], h, .nil⟩
  | _, _, _, .cons i t, h => by
    obtain ⟨d, h1, r⟩ := i.rd R h
    obtain ⟨ds, h2, rs⟩ := OAll.rd R t h1
    exact ⟨d :: ds, h2, .cons r rs⟩
theorem OAll.tk {B : Bs} {σ : L2.St} {H : Hp} : ∀ {vs : List V} {os : List OV} {ρ : DEnv} {k : List PyData → DEnv → Prop}, Rep B ρ σ H → OAll B ρ σ H vs os → tkAll os ρ k →
    ∃ ds ρ', k ds ρ' ∧ IsAll (OW B ρ') H vs ds ∧ Rep B ρ' σ H ∧ Adv (OW B ρ) (OW B ρ') H H
  | _, _, ρ, _, R, .nil, h => ⟨[], ρ, h, .nil, R, .refl⟩
  | _, _, ρ, _, R, .cons i t, h => by
    obtain ⟨d, ρ1, h1, r, R1, m1⟩ := i.tk R h
    obtain ⟨ds, ρ2, h2, rs, R2, m2⟩ := OAll.tk R1 (OAll.adv m1 t) h1
    exact ⟨d :: ds, ρ2, h2, .cons (r.mono m2) rs, R2, m1.trans m2⟩
section
variable {X : Cx} {a b c e : Expr} {es : List Expr} {ta tb tc : DT} {t : DTA} {pos : Pos}
def dNil : DTA := fun ρ q => q [] ρ
def dCons (ta : DT) (tr : DTA) : DTA := fun ρ q => ta ρ fun o ρ1 => tr ρ1 fun os ρ2 => q (o :: os) ρ2
theorem da_nil : DA X [] dNil := PA.imp pa_nil fun σ H Q ⟨B, ρ, q, R, t, k⟩ => k _ _ _ _ t .refl R .nil
theorem da_cons (ha : DO X e ta) (hr : DA X es t) (hs : starEach (e :: es) X.env = (false, eval e X.env) :: starEach es X.env := by rfl) : DA X (e :: es) (dCons ta t) := PA.imp (pa_cons ha hr hs) fun σ H Q ⟨B, ρ, q, R, t, k⟩ => by
  refine ⟨B, ρ, _, R, t, fun o ρ1 v1 H1 t1 m1 R1 i1 => ⟨B, ρ1, _, R1, t1, fun os ρ2 vs H2 t2 m2 R2 i2 => ?_⟩⟩
  exact k _ _ _ _ t2 (m1.trans m2) R2 (.cons (i1.adv m2) i2)
/-- one expression -/
theorem upA1 {σ : L2.St} {H : Hp} {Q : V → Hp → Prop} (h : ∃ B ρ q, Rep B ρ σ H ∧ ta ρ q ∧ ∀ o ρ' v H', q o ρ' → Adv (OW B ρ) (OW B ρ') H H' → Rep B ρ' σ H' → OIs B ρ' σ H' v o → Q v H') : upO ta σ H Q := h

/-! ### displays -/
def dTup (t : DTA) : DT := fun ρ q => t ρ fun os ρ1 => tkAll os ρ1 fun ds ρ2 => ds.length ≤ 16777216 ∧ q (.vl (.tuple ds)) ρ2
theorem do_tup {x1} (h : DA X es t) : DO X (.Tuple es x1 pos) (dTup t) := PE.imp (pe_tup h) fun σ H Q ⟨B, ρ, q, R, t, k⟩ => by
  refine ⟨B, ρ, _, R, t, fun os ρ1 vs H1 t1 m1 R1 i1 => ?_⟩
  obtain ⟨ds, ρ2, ⟨hl, t2⟩, is, R2, m2⟩ := OAll.tk R1 i1 t1
  refine ⟨by rw [is.length, sizeLine_eq]; exact hl, fun p hp => ?_⟩
  have m3 : Adv (OW B ρ2) (OW B ρ2) H1 (upd H1 p (.tup vs)) := .new hp
  exact k _ _ _ _ t2 ((m1.trans m2).trans m3) (R2.same (same_new hp)) (.tup upd_same (is.mono m3))
/-- a list that is handed on at once -/
def dLst (t : DTA) : DT := fun ρ q => t ρ fun os ρ1 => tkAll os ρ1 fun ds ρ2 => ds.length ≤ 16777216 ∧ q (.vl (.list ds)) ρ2
theorem do_lst (h : DA X es t) : DO X (.List es pos) (dLst t) := PE.imp (pe_lst h) fun σ H Q ⟨B, ρ, q, R, t, k⟩ => by
  refine ⟨B, ρ, _, R, t, fun os ρ1 vs H1 t1 m1 R1 i1 => ?_⟩
  obtain ⟨ds, ρ2, ⟨hl, t2⟩, is, R2, m2⟩ := OAll.tk R1 i1 t1
  refine ⟨by rw [is.length, sizeLine_eq]; exact hl, fun p hp => ?_⟩
  have m3 : Adv (OW B ρ2) (OW B ρ2) H1 (upd H1 p (.lst vs)) := .new hp
  exact k _ _ _ _ t2 ((m1.trans m2).trans m3) (R2.same (same_new hp)) (.lst (R2.new hp) upd_same (is.mono m3))

/-! ### items -/
theorem atI_all {O : Addr → Prop} {H : Hp} {xs : List V} {ds : List PyData} (h : IsAll O H xs ds) {i : Int} {d : PyData} (e : atI ds i = some d) : ∃ v, atI xs i = some v ∧ Is O H v d := by
  unfold atI at e ⊢
  rw [h.length]
  cases q : ixN ds.length i with
  | none => rw [q] at e; cases e
  | some j =>
    rw [q] at e
    exact h.get e
def gIx : D2 := fun d e q => match e with
  | .int i => match d with
    | .list ds => ∃ r, atI ds i = some r ∧ q r
    | .tuple ds => ∃ r, atI ds i = some r ∧ q r
    | .str x => (L x).length ≤ 16777216 ∧ ∃ c, atI (L x) i = some c ∧ q (S [c])
    | _ => False
  | _ => False
theorem fit_ix {K : PySem.W.Frag} : Fit2 (rIx K) gIx := fun O H x y d e q Q _ hx hy h k => by
  unfold gIx at h
  split at h
  · rename_i i
    split at h
    · obtain ⟨r, h1, h2⟩ := h
      obtain ⟨a, xs, e1, e2, e3⟩ := hx.lst
      obtain ⟨v, f1, f2⟩ := atI_all e3 h1
      exact .inl ⟨a, xs, i, v, e1, hy.int, SqL.of e2, f1, k _ _ _ h2 (Same.refl _) f2⟩
    · obtain ⟨r, h1, h2⟩ := h
      obtain ⟨a, xs, e1, e2, e3⟩ := hx.tup
      obtain ⟨v, f1, f2⟩ := atI_all e3 h1
      exact .inr (.inl ⟨a, xs, i, v, e1, hy.int, SqT.of e2, f1, k _ _ _ h2 (Same.refl _) f2⟩)
    · obtain ⟨hl, c, h1, h2⟩ := h
      exact .inr (.inr ⟨_, i, c, hx.str, hy.int, by rw [sizeLine_eq, ← L_len]; exact hl, h1, k _ _ _ h2 (Same.refl _) (.str _)⟩)
    · exact h.elim
  · exact h.elim
theorem do_ix (ha : DO X a ta) (hb : DO X b tb) (hs : PlainIx b) : DO X (.Subscript a b pos) (d2 gIx ta tb) := PE.imp (pe_ix ix_seq ha hb hs) fun _ _ _ h => up2 fit_ix h

/-! ### slices -/
abbrev DTO := DEnv → (Option Int → DEnv → Prop) → Prop
def upP (t : DTO) : TO := fun σ H Q => ∃ B ρ q, Rep B ρ σ H ∧ t ρ q ∧ ∀ o ρ' H', q o ρ' → Adv (OW B ρ) (OW B ρ') H H' → Rep B ρ' σ H' → Q o H'
theorem PO.imp {e : Option Expr} {t t' : TO} (h : PO X e t) (i : ∀ σ H Q, t' σ H Q → t σ H Q) : PO X e t' := ⟨fun pins s σ H Q I hq => h.run pins s σ H Q I (i σ H Q hq)⟩
def dNoP : DTO := fun ρ q => q none ρ
def dPt (t : DT) : DTO := fun ρ q => t ρ fun o ρ' => o.rd ρ' fun d => match d with
  | .int i => q (some i) ρ'
  | _ => False
theorem dpo_none : PO X none (upP dNoP) := PO.imp po_none fun σ H Q ⟨B, ρ, q, R, t, k⟩ => k _ _ _ t .refl R
theorem dpo_some (h : DO X e ta) : PO X (some e) (upP (dPt ta)) := PO.imp (po_some h) fun σ H Q ⟨B, ρ, q, R, t, k⟩ => by
  refine ⟨B, ρ, _, R, t, fun oa ρ1 v1 H1 t1 m1 R1 i1 => ?_⟩
  obtain ⟨d, t3, r3⟩ := i1.rd R1 t1
  split at t3
  · rename_i i
    exact ⟨i, r3.int, k _ _ _ t3 m1 R1⟩
  · exact t3.elim
/-- l[lo:hi] -/
def cutD {α : Type} (xs : List α) (lo hi : Option Int) : List α := (xs.drop (HT.sIx xs.length 0 lo)).take (HT.sIx xs.length xs.length hi - HT.sIx xs.length 0 lo)
def gSl (lo hi : Option Int) : D1 := fun d q => match d with
  | .str x => (L x).length ≤ 16777216 ∧ q (S (cutD (L x) lo hi))
  | .list ds => q (.list (cutD ds lo hi))
  | .tuple ds => q (.tuple (cutD ds lo hi))
  | _ => False
theorem cut_all {α : Type} {xs : List α} {lo hi : Option Int} (h : HT.sIx xs.length 0 lo = 0 ∧ HT.sIx xs.length xs.length hi = xs.length) : cutD xs lo hi = xs := by
  unfold cutD
  rw [h.1, h.2]
  simp
def dSl (ta : DT) (tl th : DTO) : DT := fun ρ q => ta ρ fun oa ρ1 => tl ρ1 fun lo ρ2 => th ρ2 fun hi ρ3 => oa.rd ρ3 fun d => gSl lo hi d fun r => q (.vl r) ρ3
theorem cut_is {O : Addr → Prop} {H : Hp} {xs : List V} {ds : List PyData} (h : IsAll O H xs ds) (lo hi : Option Int) : IsAll O H (cutV xs lo hi) (cutD ds lo hi) := by
  unfold cutV cutD
  rw [h.length]
  exact (h.drop _).take _
theorem do_sl {lo hi : Option Expr} {tl th : DTO} {p2 : Pos} (ha : DO X a ta) (hl : PO X lo (upP tl)) (hh : PO X hi (upP th)) : DO X (.Subscript a (.Slice lo hi none p2) pos) (dSl ta tl th) := PE.imp (pe_slice (sl_str.or (sl_list.or sl_tupA)) ha hl hh) fun σ H Q ⟨B, ρ, q, R, t, k⟩ => by
  refine ⟨B, ρ, _, R, t, fun oa ρ1 v1 H1 t1 m1 R1 i1 => ⟨B, ρ1, _, R1, t1, fun lo ρ2 H2 t2 m2 R2 => ⟨B, ρ2, _, R2, t2, fun hi ρ3 H3 t3 m3 R3 => ?_⟩⟩⟩
  obtain ⟨d, t4, r4⟩ := ((i1.adv m2).adv m3).rd R3 t3
  have m := (m1.trans m2).trans m3
  unfold gSl at t4
  split at t4
  · rename_i x
    refine .inl ⟨_, r4.str, by rw [sizeLine_eq, ← L_len]; exact t4.1, ?_⟩
    have e : mk (cutD (L x) lo hi) = cutS x lo hi := rfl
    rw [← e]
    exact k _ _ _ _ t4.2 m R3 (Is.str _)
  · obtain ⟨a', xs, e1, e2, e3⟩ := r4.lst
    refine .inr (.inl ⟨a', xs, e1, SqL.of e2, fun p hp => ?_⟩)
    have m4 : Adv (OW B ρ3) (OW B ρ3) H3 (upd H3 p (.lst (cutV xs lo hi))) := .new hp
    exact k _ _ _ _ t4 (m.trans m4) (R3.same (same_new hp)) (.lst (R3.new hp) upd_same ((cut_is e3 lo hi).mono m4))
  · obtain ⟨a', xs, e1, e2, e3⟩ := r4.tup
    rename_i ds
    refine .inr (.inr ⟨a', xs, e1, SqT.of e2, fun hw => ?_, fun hw p hp => ?_⟩)
    · rw [cut_all (xs := ds) (by rw [← e3.length]; exact hw)] at t4
      exact k _ _ _ _ t4 m R3 (.tup e2 e3)
    · have m4 : Adv (OW B ρ3) (OW B ρ3) H3 (upd H3 p (.tup (cutV xs lo hi))) := .new hp
      exact k _ _ _ _ t4 (m.trans m4) (R3.same (same_new hp)) (.tup upd_same ((cut_is e3 lo hi).mono m4))
  · exact t4.elim

/-! ### built-ins called by name -/
abbrev DG := List PyData → (PyData → Prop) → Prop
def Fit (r : List V → Hp → VK → Prop) (g : DG) : Prop := ∀ (O : Addr → Prop) (H : Hp) (xs : List V) (ds : List PyData) (q : PyData → Prop) (Q : VK), (∀ a, O a → ∃ o, H a = some o) → RdAll O H xs ds → g ds q →
  (∀ z dz H', q dz → Same H H' → Is O H' z dz → Q z H') → r xs H Q
def dB1 (g : DG) (t : DTA) : DT := fun ρ q => t ρ fun os ρ1 => rdAll os ρ1 fun ds => g ds fun r => q (.vl r) ρ1
theorem upG {r : List V → Hp → VK → Prop} {g : DG} (f : Fit r g) {σ : L2.St} {H : Hp} {Q : VK} (h : upO (dB1 g t) σ H Q) : upA t σ H fun vs H1 => r vs H1 Q := by
  obtain ⟨B, ρ, q, R, t, k⟩ := h
  refine ⟨B, ρ, _, R, t, fun os ρ1 vs H1 t1 m1 R1 i1 => ?_⟩
  obtain ⟨ds, t2, rs⟩ := OAll.rd R1 i1 t1
  exact f _ H1 vs ds _ _ R1.owt rs t2 fun z dz H' hq hs hz => k _ _ _ _ hq (m1.trans (.same hs)) (R1.same hs) hz
theorem do_callB {id : String} {r : List V → Hp → VK → Prop} {g : DG} {x : Str} {p : Pos} (hc : CallR X (.builtin id) r) (f : Fit r g) (hg : Gl X x) (hm : X.mg x = none) (hv : bootBuiltins x = some (.builtin id)) (ha : DA X (e :: es) t) (hn : x ≠ "__name__" := by decide) (hdb : (x == ("__debug__" : Str)) = false := by decide)
    (he : starEach (e :: es) X.env = (false, eval e X.env) :: starEach es X.env := by rfl) (hpl : (backTo pos (starEach es X.env)).any (·.1) = false := by rfl) : DO X (.Call (.Name x p) (e :: es) [] pos) (dB1 g t) :=
  PE.imp (pe_callB hc hg hm hv ha hn hdb he hpl) fun _ _ _ h => upG f h
theorem do_callTy {id : String} {r : List V → Hp → VK → Prop} {g : DG} {x : Str} {p : Pos} (hc : CallR X (.type id) r) (f : Fit r g) (hg : Gl X x) (hm : X.mg x = none) (hv : bootBuiltins x = some (.type id)) (ha : DA X (e :: es) t) (hn : x ≠ "__name__" := by decide) (hdb : (x == ("__debug__" : Str)) = false := by decide)
    (he : starEach (e :: es) X.env = (false, eval e X.env) :: starEach es X.env := by rfl) (hpl : (backTo pos (starEach es X.env)).any (·.1) = false := by rfl) : DO X (.Call (.Name x p) (e :: es) [] pos) (dB1 g t) :=
  PE.imp (pe_callTy hc hg hm hv ha hn hdb he hpl) fun _ _ _ h => upG f h
/-- one argument -/
theorem rdAll1 {O : Addr → Prop} {H : Hp} {xs : List V} {d : PyData} (h : RdAll O H xs [d]) : ∃ x, xs = [x] ∧ RdB O H x d := by
  cases h with
  | cons r t => cases t; exact ⟨_, rfl, r⟩
theorem rdAll2 {O : Addr → Prop} {H : Hp} {xs : List V} {d e : PyData} (h : RdAll O H xs [d, e]) : ∃ x y, xs = [x, y] ∧ RdB O H x d ∧ RdB O H y e := by
  cases h with
  | cons r t =>
    cases t with
    | cons r' t => cases t; exact ⟨_, _, rfl, r, r'⟩
/-- a function of one argument -/
def g1 (g : D1) : DG := fun ds q => match ds with
  | [d] => g d q
  | _ => False
def g2 (g : D2) : DG := fun ds q => match ds with
  | [d, e] => g d e q
  | _ => False
/-- len -/
def gLen : D1 := fun d q => match d with
  | .str x => (L x).length ≤ 16777216 ∧ q (.int ((L x).length : Nat))
  | .list ds => q (.int (ds.length : Nat))
  | .tuple ds => q (.int (ds.length : Nat))
  | _ => False
theorem fit_len {K : PySem.W.Frag} : Fit (fun xs H Q => ∃ x n, xs = [x] ∧ LenV K x H n ∧ Q (.int (n : Nat)) H) (g1 gLen) := fun O H xs ds q Q _ rs h k => by
  unfold g1 at h
  split at h
  · rename_i d
    obtain ⟨x, rfl, r⟩ := rdAll1 rs
    unfold gLen at h
    split at h
    · obtain rfl := r.str
      exact ⟨_, _, rfl, ⟨by rw [sizeLine_eq, ← L_len]; exact h.1, (L_len _)⟩, k _ _ _ h.2 (Same.refl _) (.int _)⟩
    · obtain ⟨a, ys, rfl, e2, e3⟩ := r.lst
      exact ⟨_, _, rfl, .inl ⟨ys, SqL.of e2, e3.length.symm⟩, k _ _ _ h (Same.refl _) (.int _)⟩
    · obtain ⟨a, ys, rfl, e2, e3⟩ := r.tup
      exact ⟨_, _, rfl, .inr ⟨ys, SqT.of e2, e3.length.symm⟩, k _ _ _ h (Same.refl _) (.int _)⟩
    · exact h.elim
  · exact h.elim
theorem do_len {p : Pos} (hg : Gl X "len") (hm : X.mg "len" = none) (ha : DO X e ta) (he : starEach [e] X.env = (false, eval e X.env) :: starEach [] X.env := by rfl) : DO X (.Call (.Name "len" p) [e] [] pos) (dB1 (g1 gLen) (dCons ta dNil)) :=
  do_callB call_len fit_len hg hm boot_len (da_cons ha da_nil he) (by decide) (by decide) he
/-- a function of ints alone -/
def gAbs : D1 := fun d q => match d with
  | .int i => q (.int (if i < 0 then -i else i))
  | _ => False
abbrev gMax : DG := g2 (gII (fun _ _ => True) fun i j => .int (if j > i then j else i))
abbrev gMin : DG := g2 (gII (fun _ _ => True) fun i j => .int (if j < i then j else i))
theorem fit_abs : Fit (fun xs H Q => ∃ i, xs = [.int i] ∧ Q (.int (if i < 0 then -i else i)) H) (g1 gAbs) := fun O H xs ds q Q _ rs h k => by
  unfold g1 at h
  split at h
  · rename_i d
    obtain ⟨x, rfl, r⟩ := rdAll1 rs
    unfold gAbs at h
    split at h
    · obtain rfl := r.int
      exact ⟨_, rfl, k _ _ _ h (Same.refl _) (.int _)⟩
    · exact h.elim
  · exact h.elim
theorem fit_II {g : Int → Int → Int} : Fit (fun xs H Q => ∃ i j, xs = [.int i, .int j] ∧ Q (.int (g i j)) H) (g2 (gII (fun _ _ => True) fun i j => .int (g i j))) := fun O H xs ds q Q _ rs h k => by
  unfold g2 at h
  split at h
  · rename_i d e
    obtain ⟨x, y, rfl, r, r'⟩ := rdAll2 rs
    unfold gII at h
    split at h
    · obtain rfl := r.int
      obtain rfl := r'.int
      exact ⟨_, _, rfl, k _ _ _ h.2 (Same.refl _) (.int _)⟩
    · exact h.elim
  · exact h.elim
theorem do_abs {p : Pos} (hg : Gl X "abs") (hm : X.mg "abs" = none) (ha : DO X e ta) (he : starEach [e] X.env = (false, eval e X.env) :: starEach [] X.env := by rfl) :
    DO X (.Call (.Name "abs" p) [e] [] pos) (dB1 (g1 gAbs) (dCons ta dNil)) :=
  do_callB call_abs fit_abs hg hm (by decide +kernel) (da_cons ha da_nil he) (by decide) (by decide) he
theorem do_max2 {p : Pos} (hc : X.calm = true) (hg : Gl X "max") (hm : X.mg "max" = none) (ha : DA X (a :: es) t) (he : starEach (a :: es) X.env = (false, eval a X.env) :: starEach es X.env := by rfl) (hpl : (backTo pos (starEach es X.env)).any (·.1) = false := by rfl) :
    DO X (.Call (.Name "max" p) (a :: es) [] pos) (dB1 (g2 (gII (fun _ _ => True) fun i j => .int (if j > i then j else i))) t) := do_callB (call_max2 hc) fit_II hg hm (by decide +kernel) ha (by decide) (by decide) he hpl
theorem do_min2 {p : Pos} (hc : X.calm = true) (hg : Gl X "min") (hm : X.mg "min" = none) (ha : DA X (a :: es) t) (he : starEach (a :: es) X.env = (false, eval a X.env) :: starEach es X.env := by rfl) (hpl : (backTo pos (starEach es X.env)).any (·.1) = false := by rfl) :
    DO X (.Call (.Name "min" p) (a :: es) [] pos) (dB1 (g2 (gII (fun _ _ => True) fun i j => .int (if j < i then j else i))) t) := do_callB (call_min2 hc) fit_II hg hm (by decide +kernel) ha (by decide) (by decide) he hpl
/-- int of an int or a bool -/
def gInt : D1 := fun d q => match d with
  | .int i => q (.int i)
  | .bool b => q (.int (if b then 1 else 0))
  | _ => False
theorem fit_int : Fit (fun xs H Q => (∃ i, xs = [.int i] ∧ Q (.int i) H) ∨ ∃ k, xs = [.bl k] ∧ Q (.int (if k then 1 else 0)) H) (g1 gInt) := fun O H xs ds q Q _ rs h k => by
  unfold g1 at h
  split at h
  · rename_i d
    obtain ⟨x, rfl, r⟩ := rdAll1 rs
    unfold gInt at h
    split at h
    · obtain rfl := r.int
      exact .inl ⟨_, rfl, k _ _ _ h (Same.refl _) (.int _)⟩
    · obtain rfl := r.bl
      exact .inr ⟨_, rfl, k _ _ _ h (Same.refl _) (.int _)⟩
    · exact h.elim
  · exact h.elim
theorem do_int1 {p : Pos} (hg : Gl X "int") (hm : X.mg "int" = none) (ha : DO X e ta) (he : starEach [e] X.env = (false, eval e X.env) :: starEach [] X.env := by rfl) : DO X (.Call (.Name "int" p) [e] [] pos) (dB1 (g1 gInt) (dCons ta dNil)) :=
  do_callTy call_int1 fit_int hg hm boot_int (da_cons ha da_nil he) (by decide) (by decide) he
/-- all and any of a list of truths -/
def boolsOf : List PyData → Option (List Bool)
  | [] => some []
  | .bool b :: ds => (boolsOf ds).map (b :: ·)
  | _ :: _ => none
theorem bools_is {O : Addr → Prop} {H : Hp} : ∀ {ds : List PyData} {xs : List V} {bs : List Bool}, IsAll O H xs ds → boolsOf ds = some bs → xs = bs.map V.bl
  | [], _, bs, .nil, e => by
    cases e
    rfl
  | d :: ds, _, bs, .cons h t, e => by
    cases d with
    | bool b =>
      simp only [boolsOf] at e
      cases q : boolsOf ds with
      | none => rw [q] at e; cases e
      | some cs =>
        rw [q] at e
        cases e
        cases h
        rw [bools_is t q]
        rfl
    | _ => simp [boolsOf] at e
def gAll (f : List Bool → Bool) : D1 := fun d q => match d with
  | .list ds => ∃ bs, boolsOf ds = some bs ∧ q (.bool (f bs))
  | _ => False
theorem fit_all {K : PySem.W.Frag} {f : List Bool → Bool} : Fit (fun vs H Q => ∃ (a : Addr) (bs : List Bool), vs = [V.ref a] ∧ SqL K H a (bs.map V.bl) ∧ Q (.bl (f bs)) H) (g1 (gAll f)) := fun O H xs ds q Q _ rs h k => by
  unfold g1 at h
  split at h
  · rename_i d
    obtain ⟨x, rfl, r⟩ := rdAll1 rs
    unfold gAll at h
    split at h
    · obtain ⟨bs, h1, h2⟩ := h
      obtain ⟨a, ys, rfl, e2, e3⟩ := r.lst
      have e := bools_is e3 h1
      subst e
      exact ⟨a, bs, rfl, SqL.of e2, k _ _ _ h2 (Same.refl _) (.bl _)⟩
    · exact h.elim
  · exact h.elim
theorem do_all {p : Pos} (hc : X.calm = true) (hg : Gl X "all") (hm : X.mg "all" = none) (ha : DO X e ta) (he : starEach [e] X.env = (false, eval e X.env) :: starEach [] X.env := by rfl) : DO X (.Call (.Name "all" p) [e] [] pos) (dB1 (g1 (gAll (·.all id))) (dCons ta dNil)) :=
  do_callB (cr_all hc) fit_all hg hm (by decide +kernel) (da_cons ha da_nil he) (by decide) (by decide) he
theorem do_any {p : Pos} (hc : X.calm = true) (hg : Gl X "any") (hm : X.mg "any" = none) (ha : DO X e ta) (he : starEach [e] X.env = (false, eval e X.env) :: starEach [] X.env := by rfl) : DO X (.Call (.Name "any" p) [e] [] pos) (dB1 (g1 (gAll (·.any id))) (dCons ta dNil)) :=
  do_callB (cr_any hc) fit_all hg hm (by decide +kernel) (da_cons ha da_nil he) (by decide) (by decide) he
/-- list(x), tuple(x): new ones -/
def gListOf : D1 := fun d q => match d with
  | .list ds => q (.list ds)
  | .tuple ds => q (.list ds)
  | _ => False
theorem fit_listOf {K : PySem.W.Frag} : Fit (fun xs H Q => ∃ p ys, xs = [.ref p] ∧ (SqL K H p ys ∨ SqT K H p ys) ∧ ∀ l, H l = none → Q (.ref l) (upd H l (.lst ys))) (g1 gListOf) := fun O H xs ds q Q tr rs h k => by
  unfold g1 at h
  split at h
  · rename_i d
    obtain ⟨x, rfl, r⟩ := rdAll1 rs
    have fin : ∀ {a : Addr} {ys : List V} {ds : List PyData} (l : Addr), q (.list ds) → IsAll O H ys ds → H l = none → Q (.ref l) (upd H l (.lst ys)) := fun {a ys ds} l hq e3 hl => by
      refine k _ _ _ hq (same_new hl) (.lst (fun z => ?_) upd_same (e3.mono (.new hl)))
      obtain ⟨o, eo⟩ := tr _ z
      rw [hl] at eo; cases eo
    unfold gListOf at h
    split at h
    · obtain ⟨a, ys, rfl, e2, e3⟩ := r.lst
      exact ⟨a, ys, rfl, .inl (SqL.of e2), fun l hl => fin (a := a) l h e3 hl⟩
    · obtain ⟨a, ys, rfl, e2, e3⟩ := r.tup
      exact ⟨a, ys, rfl, .inr (SqT.of e2), fun l hl => fin (a := a) l h e3 hl⟩
    · exact h.elim
  · exact h.elim
theorem do_listOf {p : Pos} (hg : Gl X "list") (hm : X.mg "list" = none) (ha : DO X e ta) (he : starEach [e] X.env = (false, eval e X.env) :: starEach [] X.env := by rfl) : DO X (.Call (.Name "list" p) [e] [] pos) (dB1 (g1 gListOf) (dCons ta dNil)) :=
  do_callTy call_list_of fit_listOf hg hm (by decide +kernel) (da_cons ha da_nil he) (by decide) (by decide) he

/-! ### texts' methods -/
def strsOf : List PyData → Option (List Str)
  | [] => some []
  | .str x :: ds => (strsOf ds).map (x :: ·)
  | _ :: _ => none
theorem strs_is {O : Addr → Prop} {H : Hp} : ∀ {ds : List PyData} {xs : List V} {bs : List Str}, IsAll O H xs ds → strsOf ds = some bs → xs = bs.map V.str
  | [], _, bs, .nil, e => by
    cases e
    rfl
  | d :: ds, _, bs, .cons h t, e => by
    cases d with
    | str b =>
      simp only [strsOf] at e
      cases q : strsOf ds with
      | none => rw [q] at e; cases e
      | some cs =>
        rw [q] at e
        cases e
        cases h
        rw [strs_is t q]
        rfl
    | _ => simp [strsOf] at e
/-- a text's method with one argument -/
def dM1 (g : D2) (ta tb : DT) : DT := fun ρ q => ta ρ fun oa ρ1 => oa.rd ρ1 fun d => match d with
  | .str x => tb ρ1 fun ob ρ2 => ob.rd ρ2 fun e => g (.str x) e fun r => q (.vl r) ρ2
  | _ => False
theorem upM1 {r : V → List V → Hp → VK → Prop} {g : D2} (f : Fit2 (fun x y H Q => r x [y] H Q) g) {σ : L2.St} {H : Hp} {Q : VK} (h : upO (dM1 g ta tb) σ H Q) : tM1 r (upO ta) (upO tb) σ H Q := by
  obtain ⟨B, ρ, q, R, t, k⟩ := h
  refine ⟨B, ρ, _, R, t, fun oa ρ1 v1 H1 t1 m1 R1 i1 => ?_⟩
  obtain ⟨d, t2, r2⟩ := i1.rd R1 t1
  split at t2
  · rename_i x
    obtain rfl := r2.str
    refine ⟨⟨x, rfl⟩, B, ρ1, _, R1, t2, fun ob ρ2 v2 H2 t3 m2 R2 i2 => ?_⟩
    obtain ⟨e, t4, r4⟩ := i2.rd R2 t3
    exact f _ H2 _ v2 (.str x) e _ _ R2.owt (.inl (.str x)) r4 t4 fun z dz H' hq hs hz => k _ _ _ _ hq ((m1.trans m2).trans (.same hs)) (R2.same hs) hz
  · exact t2.elim
/-- a text's join of a list of texts -/
def gJoin : D2 := fun d e q => match d with
  | .str x => match e with
    | .list ds => ∃ ys, strsOf ds = some ys ∧ (ys.map (·.length)).sum + ys.length * x.length ≤ 16777216 ∧ q (.str (Txt.join x ys))
    | _ => False
  | _ => False
theorem do_join {apos : Pos} (ha : DO X a ta) (hb : DO X b tb) (hs : starEach [b] X.env = [(false, eval b X.env)] := by rfl) (hbase : attributeBase a "join" X.env (eval a X.env) = eval a X.env := by rfl) (hline : (apos.endLine == pos.line) = true := by rfl) :
    DO X (.Call (.Attribute a "join" apos) [b] [] pos) (dM1 gJoin ta tb) := PE.imp (pe_join ha hb hs hbase hline) fun _ _ _ h => upM1 (fun O H x y d e q Q _ hx hy h k => by
  unfold gJoin at h
  split at h
  · split at h
    · obtain ⟨ys, h1, h2, h3⟩ := h
      obtain ⟨p, xs, e1, e2, e3⟩ := hy.lst
      have e := strs_is e3 h1
      subst e
      exact ⟨_, p, ys, hx.str, by rw [e1], .inl (SqL.of e2), h2, k _ _ _ h3 (Same.refl _) (.str _)⟩
    · exact h.elim
  · exact h.elim) h
def gStarts : D2 := fun d e q => match d, e with
  | .str x, .str y => q (.bool (Txt.startswith x y))
  | _, _ => False
theorem do_starts {apos : Pos} (ha : DO X a ta) (hb : DO X b tb) (hs : starEach [b] X.env = [(false, eval b X.env)] := by rfl) (hbase : attributeBase a "startswith" X.env (eval a X.env) = eval a X.env := by rfl) (hline : (apos.endLine == pos.line) = true := by rfl) :
    DO X (.Call (.Attribute a "startswith" apos) [b] [] pos) (dM1 gStarts ta tb) := PE.imp (pe_m1 F.slot_str_startswith F.type_str_startswith mt_startswith ha hb hs hbase hline) fun _ _ _ h => upM1 (fun O H x y d e q Q _ hx hy h k => by
  unfold gStarts at h
  split at h
  · exact ⟨_, _, hx.str, by rw [hy.str], k _ _ _ h (Same.refl _) (.bl _)⟩
  · exact h.elim) h
/-- a sign in a text -/
def gInS (f : Bool → Bool) : D2 := fun d e q => match d, e with
  | .str x, .str y => ∃ c, L x = [c] ∧ q (.bool (f (decide (c ∈ L y))))
  | _, _ => False
theorem str_one {x : Str} {c : Nat} (h : L x = [c]) : x = ⟨#[c]⟩ := by
  rw [← mk_L x, h]
  rfl
theorem fit_inS : Fit2 (fun x y H Q => ∃ (c : Nat) (z : Str), x = .str ⟨#[c]⟩ ∧ y = .str z ∧ Q (.bl (decide (c ∈ z.cps.toList))) H) (gInS id) := fun O H x y d e q Q _ hx hy h k => by
  unfold gInS at h
  split at h
  · obtain ⟨c, h1, h2⟩ := h
    exact ⟨c, _, by rw [hx.str, str_one h1], hy.str, k _ _ _ h2 (Same.refl _) (.bl _)⟩
  · exact h.elim
theorem fit_notInS : Fit2 (fun x y H Q => ∃ (c : Nat) (z : Str), x = .str ⟨#[c]⟩ ∧ y = .str z ∧ Q (.bl (!decide (c ∈ z.cps.toList))) H) (gInS (!·)) := fun O H x y d e q Q _ hx hy h k => by
  unfold gInS at h
  split at h
  · obtain ⟨c, h1, h2⟩ := h
    exact ⟨c, _, by rw [hx.str, str_one h1], hy.str, k _ _ _ h2 (Same.refl _) (.bl _)⟩
  · exact h.elim
theorem do_inS (ha : DO X a ta) (hb : DO X b tb) (hm : behindInMarks .In b = false := by rfl) : DO X (.Compare a [.In] [b] pos) (d2 (gInS id) ta tb) := do_cmp op_in_sign fit_inS ha hb hm
theorem do_notInS (ha : DO X a ta) (hb : DO X b tb) (hm : behindInMarks .NotIn b = false := by rfl) : DO X (.Compare a [.NotIn] [b] pos) (d2 (gInS (!·)) ta tb) := do_cmp op_notIn_sign fit_notInS ha hb hm

/-! ### calls of defs -/
/-- a def's promise on data: F asks of the arguments' data and tells the value's data and what the first argument holds then (m: it may be written) -/
abbrev DF := List PyData → (PyData → PyData → Prop) → Prop
/-- the arguments behind the first one -/
def spD (m : Bool) (n : Nat) (F : DF) : Sp := fun vs H Q _ => vs.length = n ∧ ∃ (O : Addr → Prop) (ds : List PyData) (q : PyData → PyData → Prop), (∀ a, O a → ∃ o, H a = some o ∧ isTup o = false) ∧ F ds q ∧
  if m then ∃ (a : Addr) (ws : List V) (d0 : PyData) (es : List PyData), vs = .ref a :: ws ∧ ds = d0 :: es ∧ O a ∧ Top O H a d0 ∧ IsAll O H ws es ∧
      ∀ d e v H', q d e → (∀ b o, H b = some o → b ≠ a → H' b = some o) → Top O H' a e → Is O H' v d → Q v H'
  else IsAll O H vs ds ∧ ∀ d e v H', q d e → Same H H' → Is O H' v d → Q v H'
end
end DL
namespace DL
open PySem PySem.Spec PyProof.Rows L2

/-! ### calls of defs -/
/-- an argument that is an own container's name -/
def ownArg (ρ : DEnv) (o : OV) (b : Addr) : Prop := match o with
  | .vl _ => False
  | .nm i => ∃ c, ρ[i]? = some (some c) ∧ cellA c b
def ownArgs (ρ : DEnv) (os : List OV) (b : Addr) : Prop := ∃ o ∈ os, ownArg ρ o b
/-- no argument is an own container's name -/
def noOwn1 (ρ : DEnv) : OV → Bool
  | .vl _ => true
  | .nm i => match ρ[i]? with
    | some (some (.val _)) => true
    | _ => false
def noOwn (ρ : DEnv) (os : List OV) : Bool := os.all (noOwn1 ρ)
theorem noOwn_not {ρ : DEnv} {os : List OV} (h : noOwn ρ os = true) (b : Addr) : ¬ ownArgs ρ os b := fun ⟨o, ho, z⟩ => by
  have q : noOwn1 ρ o = true := List.all_eq_true.mp h o ho
  cases o with
  | vl d => exact z
  | nm i =>
    obtain ⟨c, e, z⟩ := z
    cases c with
    | val d => exact z
    | own a d => simp [noOwn1, e] at q
    | deep P d => simp [noOwn1, e] at q
/-- the arguments, each looked at as a whole -/
def rdAllX : List OV → DEnv → (List PyData → Prop) → Prop
  | [], _, k => k []
  | o :: os, ρ, k => o.rdx ρ fun d => rdAllX os ρ fun ds => k (d :: ds)
/-- the arguments, outside all own containers but those that are arguments -/
theorem OAll.args {B : Bs} {ρ : DEnv} {σ : L2.St} {H : Hp} (R : Rep B ρ σ H) {P : Addr → Prop} : ∀ {vs : List V} {os : List OV} {k : List PyData → Prop}, (∀ o ∈ os, ∀ b, ownArg ρ o b → P b) → OAll B ρ σ H vs os → rdAllX os ρ k →
    ∃ ds, k ds ∧ IsAll (fun b => OW B ρ b ∧ ¬ P b) H vs ds
  | _, _, _, _, .nil, h => ⟨[], h, .nil⟩
  | v :: vs, o :: os, k, hp, .cons i t, h => by
    have m : Adv (OW B ρ) (fun b => OW B ρ b ∧ ¬ P b) H H := Adv.sub fun _ z => z.1
    have one : ∀ {k : PyData → Prop}, o.rdx ρ k → ∃ d, k d ∧ Is (fun b => OW B ρ b ∧ ¬ P b) H v d := by
      intro k r
      cases o with
      | vl d => exact ⟨d, r, Is.mono m i⟩
      | nm j =>
        simp only [OV.rdx] at r
        have h' : σ[j]? = some (some v) := i
        split at r
        · rename_i d e
          obtain ⟨w, e1, e2⟩ := R.val j d e
          rw [h'] at e1; cases e1
          exact ⟨d, r, e2.mono m⟩
        · rename_i a d e
          obtain ⟨e1, e2, e3, _⟩ := R.own j a d e
          rw [h'] at e1; cases e1
          exact ⟨d, r, (e3.mono m rfl).is fun z => z.2 (hp _ (List.mem_cons_self ..) a ⟨_, e, rfl⟩)⟩
        · rename_i P' d e
          obtain ⟨w, e1, e2⟩ := R.cel j _ e
          rw [h'] at e1; cases e1
          exact ⟨d, r, Is.mono (O := fun b => ¬ P' b) ⟨fun _ _ h _ => h, fun b o _ n z => n fun p' => z.2 (hp _ (List.mem_cons_self ..) b ⟨_, e, p'⟩)⟩ e2⟩
        · exact r.elim
    obtain ⟨d, h1, r⟩ := one h
    obtain ⟨ds, h2, rs⟩ := OAll.args R (fun o ho => hp o (List.mem_cons_of_mem _ ho)) t h1
    exact ⟨d :: ds, h2, .cons r rs⟩
section
variable {X : Cx} {a b c e : Expr} {es : List Expr} {ta tb tc : DT} {t : DTA} {pos : Pos} {x : Str} {p : Pos} {k n : Nat} {f : Addr} {fd : FuncData} {ps : List Str} {F : DF}
def dCall (n : Nat) (F : DF) (t : DTA) : DT := fun ρ q => t ρ fun os ρ1 => os.length = n ∧ rdAllX os ρ1 fun ds => F ds fun d _ => (flat d = true ∨ noOwn ρ1 os = true) ∧ q (.vl d) ρ1
theorem upCall {E : XK} {σ : L2.St} {H : Hp} {Q : VK} (h : upO (dCall n F t) σ H Q) : tCall (spD false n F) [] E (upA t) σ H Q := by
  obtain ⟨B, ρ, q, R, t, k⟩ := h
  refine ⟨B, ρ, _, R, t, fun os ρ1 vs H1 t1 m1 R1 i1 => ?_⟩
  obtain ⟨hl, t1⟩ := t1
  rw [List.append_nil]
  obtain ⟨ds, h1, is⟩ := OAll.args (P := ownArgs ρ1 os) R1 (fun o ho b z => ⟨o, ho, z⟩) i1 t1
  refine ⟨by rw [Paired.length i1, hl], fun b => OW B ρ1 b ∧ ¬ ownArgs ρ1 os b, ds, _, fun a z => R1.ow z.1, h1, ?_⟩
  rw [if_neg Bool.false_ne_true]
  refine ⟨is, fun d e v H' hq hs hv => k _ _ _ _ hq.2 (m1.trans (.same hs)) (R1.same hs) ?_⟩
  rcases hq.1 with hf | hf
  · exact hv.flat_any hf
  · exact hv.mono (Adv.sub fun b z => ⟨z, noOwn_not hf b⟩)
theorem do_call (G : FnOk X.prog X.w X.K X.mg X.base CX0 k f fd ps (spD false n F)) (hr : Room k X.A) (hg : Gl X x) (hm : X.mg x = some (.ref f)) (hk : PySem.W.keepIn X.K (.ref f) = true) (hb : Binds X.K fd ps [])
    (ha : DA X (e :: es) t) (hdb : (x == ("__debug__" : Str)) = false := by decide) (he : starEach (e :: es) X.env = (false, eval e X.env) :: starEach es X.env := by rfl) (hpl : (backTo pos (starEach es X.env)).any (·.1) = false := by rfl) :
    DO X (.Call (.Name x p) (e :: es) [] pos) (dCall n F t) := PE.imp (pe_call G hr hg hm hk hb .nil pass0 ha hdb he hpl) fun _ _ _ h => upCall h
/-- the first argument may be written -/
def dCallM (n : Nat) (F : DF) (t : DTA) : DT := fun ρ q => t ρ fun os ρ1 => os.length = n ∧ match os with
  | .nm i :: os' => tkAll os' ρ1 fun es ρ2 => match ρ2[i]? with
    | some (some (.own a d0)) => F (d0 :: es) fun d e => q (.vl d) (ρ2.set i (some (.own a e)))
    | _ => False
  | _ => False
theorem upCallM {E : XK} {σ : L2.St} {H : Hp} {Q : VK} (h : upO (dCallM n F t) σ H Q) : tCall (spD true n F) [] E (upA t) σ H Q := by
  obtain ⟨B, ρ, q, R, t, k⟩ := h
  refine ⟨B, ρ, _, R, t, fun os ρ1 vs H1 t1 m1 R1 i1 => ?_⟩
  obtain ⟨hl, t1⟩ := t1
  rw [List.append_nil]
  refine ⟨by rw [Paired.length i1, hl], ?_⟩
  split at t1
  · rename_i i os'
    cases i1 with
    | cons i0 i1 =>
      rename_i v vs
      obtain ⟨es, ρ2, h2, is, R2, m2⟩ := OAll.tk R1 i1 t1
      split at h2
      · rename_i ad d0 hc
        obtain ⟨g1, g2, g3, g4⟩ := R2.own i ad d0 hc
        have e0 : σ[i]? = some (some v) := i0
        rw [g1] at e0
        cases e0
        refine ⟨OW B ρ2, d0 :: es, _, fun b z => R2.ow z, h2, ?_⟩
        rw [if_pos rfl]
        refine ⟨ad, vs, d0, es, rfl, rfl, .inr ⟨i, _, hc, rfl⟩, g3, is, fun d e w H' hq hk ht hw => ?_⟩
        obtain ⟨R3, m3⟩ := R2.writeBy hc hk ht
        exact k _ _ _ _ hq ((m1.trans m2).trans m3) R3 (hw.mono (Adv.sub fun b z => z.elim .inl fun z => (owns_set z).elim (fun ⟨_, z, y⟩ => by cases z; cases (show b = ad from y); exact .inr ⟨i, _, hc, rfl⟩) .inr))
      · exact h2.elim
  · exact t1.elim
theorem do_callM (G : FnOk X.prog X.w X.K X.mg X.base CX0 k f fd ps (spD true n F)) (hr : Room k X.A) (hg : Gl X x) (hm : X.mg x = some (.ref f)) (hk : PySem.W.keepIn X.K (.ref f) = true) (hb : Binds X.K fd ps [])
    (ha : DA X (e :: es) t) (hdb : (x == ("__debug__" : Str)) = false := by decide) (he : starEach (e :: es) X.env = (false, eval e X.env) :: starEach es X.env := by rfl) (hpl : (backTo pos (starEach es X.env)).any (·.1) = false := by rfl) :
    DO X (.Call (.Name x p) (e :: es) [] pos) (dCallM n F t) := PE.imp (pe_call G hr hg hm hk hb .nil pass0 ha hdb he hpl) fun _ _ _ h => upCallM h
/-- what an operand holds, handed on (an own container is frozen) -/
def dFrz (ta : DT) : DT := fun ρ q => ta ρ fun o ρ1 => o.tk ρ1 fun d ρ2 => q (.vl d) ρ2
theorem do_frz (ha : DO X a ta) : DO X a (dFrz ta) := PE.imp ha fun σ H Q ⟨B, ρ, q, R, t, k⟩ => by
  refine ⟨B, ρ, _, R, t, fun o ρ1 v H1 t1 m1 R1 i1 => ?_⟩
  obtain ⟨d, ρ2, h2, is, R2, m2⟩ := i1.tk R1 t1
  exact k _ _ _ _ h2 (m1.trans m2) R2 is
end

/-! ### statements -/
structure DEnds where
  nx : DEnv → Prop
  rt : PyData → DEnv → Prop
  bk : DEnv → Prop := fun _ => False
  ct : DEnv → Prop := fun _ => False
abbrev DTS := DEnds → DEnv → Prop
structure EndsOk (B : Bs) (O : Addr → Prop) (H : Hp) (D : Ends) (E : DEnds) : Prop where
  nx : ∀ ρ' σ' H', E.nx ρ' → Adv O (OW B ρ') H H' → Rep B ρ' σ' H' → D.nx σ' H'
  rt : ∀ d ρ' σ' v H', E.rt d ρ' → Adv O (OW B ρ') H H' → Rep B ρ' σ' H' → Is (OW B ρ') H' v d → D.rt v H'
  bk : ∀ ρ' σ' H', E.bk ρ' → Adv O (OW B ρ') H H' → Rep B ρ' σ' H' → D.bk σ' H'
  ct : ∀ ρ' σ' H', E.ct ρ' → Adv O (OW B ρ') H H' → Rep B ρ' σ' H' → D.ct σ' H'
theorem EndsOk.adv {B : Bs} {O O' : Addr → Prop} {H H' : Hp} {D : Ends} {E : DEnds} (h : EndsOk B O H D E) (m : Adv O O' H H') : EndsOk B O' H' D E :=
  ⟨fun _ _ _ a b c => h.nx _ _ _ a (m.trans b) c, fun _ _ _ _ _ a b c d => h.rt _ _ _ _ _ a (m.trans b) c d, fun _ _ _ a b c => h.bk _ _ _ a (m.trans b) c, fun _ _ _ a b c => h.ct _ _ _ a (m.trans b) c⟩
def upS (t : DTS) : TS := fun D σ H => ∃ B ρ E, Rep B ρ σ H ∧ t E ρ ∧ EndsOk B (OW B ρ) H D E
abbrev DS (X : Cx) (st : Stmt) (t : DTS) : Prop := PS X st (upS t)
abbrev DSs (X : Cx) (st : List Stmt) (t : DTS) : Prop := PSs X st (upS t)
section
variable {X : Cx} {a b c e : Expr} {es : List Expr} {ta tb tc : DT} {t : DTA} {pos : Pos} {st : Stmt} {rest : List Stmt} {u v : DTS} {s : DTT}
def sNext : DTS := fun E ρ => E.nx ρ
def sSeq (u v : DTS) : DTS := fun E ρ => u { E with nx := v E } ρ
theorem ds_nil : DSs X [] sNext := PSs.imp pss_nil fun D σ H ⟨B, ρ, E, R, t, k⟩ => k.nx _ _ _ t .refl R
theorem ds_cons (h1 : DS X st u) (h2 : DSs X rest v) : DSs X (st :: rest) (sSeq u v) := PSs.imp (pss_cons h1 h2) fun D σ H ⟨B, ρ, E, R, t, k⟩ =>
  ⟨B, ρ, _, R, t, fun ρ' σ' H' t1 m1 R1 => ⟨B, ρ', E, R1, t1, k.adv m1⟩, k.rt, k.bk, k.ct⟩
theorem ds_one (h1 : DS X st u) : DSs X [st] u := pss_one h1
theorem ds_pass : DS X (.Pass pos) sNext := PS.imp ps_pass fun D σ H ⟨B, ρ, E, R, t, k⟩ => k.nx _ _ _ t .refl R
def sBreak : DTS := fun E ρ => E.bk ρ
def sCont : DTS := fun E ρ => E.ct ρ
theorem ds_break : DS X (.Break pos) sBreak := PS.imp ps_break fun D σ H ⟨B, ρ, E, R, t, k⟩ => k.bk _ _ _ t .refl R
theorem ds_continue : DS X (.Continue pos) sCont := PS.imp ps_continue fun D σ H ⟨B, ρ, E, R, t, k⟩ => k.ct _ _ _ t .refl R
/-- a statement that is not come to -/
def sNever : DTS := fun _ _ => False
theorem ds_never : DS X st sNever := PS.imp ps_never fun D σ H ⟨B, ρ, E, R, t, k⟩ => t
def sDrop (ta : DT) : DTS := fun E ρ => ta ρ fun _ ρ' => E.nx ρ'
theorem ds_expr (ha : DO X a ta) (hs : swapsWith a none pos.line X.env = pure false := by rfl) : DS X (.Expr a pos) (sDrop ta) := PS.imp (ps_expr ha hs) fun D σ H ⟨B, ρ, E, R, t, k⟩ =>
  ⟨B, ρ, _, R, t, fun o ρ1 v H1 t1 m1 R1 i1 => k.nx _ _ _ t1 m1 R1⟩
def sRet (ta : DT) : DTS := fun E ρ => ta ρ fun o ρ1 => o.tk ρ1 E.rt
theorem ds_ret (ha : DO X a ta) : DS X (.Return (some a) pos) (sRet ta) := PS.imp (ps_ret ha) fun D σ H ⟨B, ρ, E, R, t, k⟩ => by
  refine ⟨B, ρ, _, R, t, fun o ρ1 v H1 t1 m1 R1 i1 => ?_⟩
  obtain ⟨d, ρ2, h2, is, R2, m2⟩ := i1.tk R1 t1
  exact k.rt _ _ _ _ _ h2 (m1.trans m2) R2 is
def sRetN : DTS := fun E ρ => E.rt .none ρ
theorem ds_retN : DS X (.Return none pos) sRetN := PS.imp ps_retN fun D σ H ⟨B, ρ, E, R, t, k⟩ => k.rt _ _ _ _ _ t .refl R .non
def sIf (s : DTT) (u v : DTS) : DTS := fun E ρ => s ρ fun b ρ' => if b = true then u E ρ' else v E ρ'
theorem ds_if {sa sb : List Stmt} (hc : DP X c s) (ha : DSs X sa u) (hb : DSs X sb v) : DS X (.If c sa sb pos) (sIf s u v) := PS.imp (ps_if hc ha hb) fun D σ H ⟨B, ρ, E, R, t, k⟩ => by
  refine ⟨B, ρ, _, R, t, fun b ρ1 H1 t1 m1 R1 => ?_⟩
  cases b with
  | true =>
    rw [if_pos rfl] at t1 ⊢
    exact ⟨B, ρ1, E, R1, t1, k.adv m1⟩
  | false =>
    rw [if_neg Bool.false_ne_true] at t1 ⊢
    exact ⟨B, ρ1, E, R1, t1, k.adv m1⟩
/-- name = value -/
def sSet (i : Nat) (ta : DT) : DTS := fun E ρ => ta ρ fun o ρ1 => o.tk ρ1 fun d ρ2 => E.nx (ρ2.set i (some (.val d)))
theorem ds_set {i : Nat} {x : Str} {pos' : Pos} (hN : X.N.Nodup) (hi : X.N[i]? = some x) (hx : Loc X.env.scope x) (ha : DO X a ta) (hs : swapsWith a (some (.Name x pos')) pos.line X.env = pure false := by rfl) (hf : X.fn x = true ∨ X.env.scope.names.lookup x = some .local := by first | exact .inl rfl | exact .inr rfl | assumption) :
    DS X (.Assign [.Name x pos'] a pos) (sSet i ta) := PS.imp (ps_set hN hi hx ha hs hf) fun D σ H ⟨B, ρ, E, R, t, k⟩ => by
  refine ⟨B, ρ, _, R, t, fun o ρ1 v H1 t1 m1 R1 i1 => ?_⟩
  obtain ⟨d, ρ2, h2, is, R2, m2⟩ := i1.tk R1 t1
  obtain ⟨R3, m3⟩ := R2.setVal (i := i) is
  exact k.nx _ _ _ h2 ((m1.trans m2).trans m3) R3
/-- an expression that makes a container of its own -/
abbrev DTF := DEnv → (PyData → DEnv → Prop) → Prop
def upF (t : DTF) : TE := fun σ H Q => ∃ B ρ q, Rep B ρ σ H ∧ t ρ q ∧ ∀ p d ρ' H', q d ρ' → ¬ B.O p → (B.mu p ∨ B.H0 p = none) → Adv (OW B ρ) (OW (B.plus p) ρ') H H' → Rep (B.plus p) ρ' σ H' → Top (OW (B.plus p) ρ') H' p d → Q (.ref p) H'
abbrev DFr (X : Cx) (e : Expr) (t : DTF) : Prop := PE X e (upF t)
def fLst (t : DTA) : DTF := fun ρ q => t ρ fun os ρ1 => tkAll os ρ1 fun ds ρ2 => ds.length ≤ 16777216 ∧ q (.list ds) ρ2
theorem dfr_lst (h : DA X es t) : DFr X (.List es pos) (fLst t) := PE.imp (pe_lst h) fun σ H Q ⟨B, ρ, q, R, t, k⟩ => by
  refine ⟨B, ρ, _, R, t, fun os ρ1 vs H1 t1 m1 R1 i1 => ?_⟩
  obtain ⟨ds, ρ2, ⟨hl, t2⟩, is, R2, m2⟩ := OAll.tk R1 i1 t1
  refine ⟨by rw [is.length, sizeLine_eq]; exact hl, fun p hp => ?_⟩
  obtain ⟨R3, tp, m3⟩ := R2.fresh hp (.lst is)
  obtain ⟨e1, e2⟩ := R2.entry hp
  exact k _ _ _ _ t2 e1 e2 ((m1.trans m2).trans m3) R3 tp
end
end DL
namespace DL
open PySem PySem.Spec PyProof.Rows L2

/-! ### the base anew -/
/-- from here on: what stands is kept but for the own containers -/
def Bs.re (B : Bs) (ρ : DEnv) (H : Hp) : Bs := ⟨B.O, H, owns ρ⟩
theorem Rep.re {B : Bs} {ρ : DEnv} {σ : L2.St} {H : Hp} (R : Rep B ρ σ H) : Rep (B.re ρ H) ρ σ H :=
  ⟨R.len, R.trk, R.cel, fun i c a h z => let ⟨h1, h2, _⟩ := R.adr i c a h z; ⟨h1, h2, .inl ⟨i, c, h, z⟩⟩, R.inj, fun _ _ h _ => h⟩
theorem Rep.unre_mu {B : Bs} {ρ : DEnv} {σ : L2.St} {H : Hp} (R : Rep B ρ σ H) {a : Addr} (h : owns ρ a ∨ H a = none) : B.mu a ∨ B.H0 a = none := by
  rcases h with ⟨i, d, h, z⟩ | h
  · exact (R.adr i d a h z).2.2
  · exact (R.entry h).2
theorem Rep.unre {B : Bs} {ρ ρ' : DEnv} {σ σ' : L2.St} {H H' : Hp} {O' : Addr → Prop} (R : Rep B ρ σ H) (R' : Rep ⟨O', H, owns ρ⟩ ρ' σ' H') : Rep { B with O := O' } ρ' σ' H' := by
  refine ⟨R'.len, R'.trk, R'.cel, fun i c a h z => ?_, R'.inj, fun b o e n => ?_⟩
  · obtain ⟨h1, h2, h3⟩ := R'.adr i c a h z
    exact ⟨h1, h2, R.unre_mu h3⟩
  · refine R'.keep b o (R.keep b o e n) fun z => ?_
    rcases R.unre_mu (.inl z) with q | q
    · exact n q
    · rw [e] at q; cases q

/-! ### a name is given a new container -/
section
variable {X : Cx} {a b c e : Expr} {es : List Expr} {ta tb tc : DT} {t : DTA} {pos : Pos} {st : Stmt} {rest : List Stmt} {u v : DTS} {s : DTT} {tf : DTF}
def sSetF (i : Nat) (tf : DTF) : DTS := fun E ρ => tf ρ fun d ρ' => ∀ p, E.nx (ρ'.set i (some (.own p d)))
theorem ds_setF {i : Nat} {x : Str} {pos' : Pos} (hN : X.N.Nodup) (hi : X.N[i]? = some x) (hx : Loc X.env.scope x) (ha : DFr X a tf) (hs : swapsWith a (some (.Name x pos')) pos.line X.env = pure false := by rfl) (hf : X.fn x = true ∨ X.env.scope.names.lookup x = some .local := by first | exact .inl rfl | exact .inr rfl | assumption) :
    DS X (.Assign [.Name x pos'] a pos) (sSetF i tf) := PS.imp (ps_set hN hi hx ha hs hf) fun D σ H ⟨B, ρ, E, R, t, k⟩ => by
  refine ⟨B, ρ, _, R, t, fun p d ρ1 H1 t1 n1 n2 m1 R1 tp => ?_⟩
  obtain ⟨R2, m2⟩ := R1.adopt (i := i) tp n1 n2
  exact k.nx _ _ _ (t1 p) (m1.trans m2) R2
/-- a new container that is handed on at once -/
def dOfF (tf : DTF) : DT := fun ρ q => tf ρ fun d ρ' => q (.vl d) ρ'
theorem do_f (ha : DFr X a tf) : DO X a (dOfF tf) := PE.imp ha fun σ H Q ⟨B, ρ, q, R, t, k⟩ => by
  refine ⟨B, ρ, _, R, t, fun p d ρ1 H1 t1 n1 n2 m1 R1 tp => ?_⟩
  obtain ⟨R2, m2⟩ := R1.drop
  have np : ¬ OW B ρ1 p := fun z => z.elim n1 fun ⟨i, c, h, z⟩ => (R1.adr i c p h z).2.1 (.inr rfl)
  exact k _ _ _ _ t1 (m1.trans m2) R2 ((tp.mono m2 rfl).is np)

/-! ### targets -/
abbrev DTG := PyData → DEnv → (DEnv → Prop) → Prop
/-- nothing but the places ws is written -/
def Only (ws : List Nat) (σ σ' : L2.St) : Prop := σ'.length = σ.length ∧ ∀ j, j ∉ ws → σ'[j]? = σ[j]?
theorem Only.refl {ws : List Nat} {σ : L2.St} : Only ws σ σ := ⟨rfl, fun _ _ => rfl⟩
theorem Only.set {i : Nat} {σ : L2.St} {x : Option V} : Only [i] σ (σ.set i x) := ⟨List.length_set .., fun j hj => List.getElem?_set_ne fun e => hj (by simp [e])⟩
theorem Only.app {ws us : List Nat} {σ σ' σ'' : L2.St} (a : Only ws σ σ') (b : Only us σ' σ'') : Only (ws ++ us) σ σ'' :=
  ⟨b.1.trans a.1, fun j hj => (b.2 j fun z => hj (List.mem_append_right _ z)).trans (a.2 j fun z => hj (List.mem_append_left _ z))⟩
def upTg (ws : List Nat) (g : DTG) : TG := fun v σ H Q => ∃ B ρ d q, Rep B ρ σ H ∧ Is (OW B ρ) H v d ∧ g d ρ q ∧ ∀ ρ' σ', q ρ' → Only ws σ σ' → Adv (OW B ρ) (OW B ρ') H H → Rep B ρ' σ' H → Q σ' H
abbrev DTGs := List PyData → DEnv → (DEnv → Prop) → Prop
def upTgs (ws : List Nat) (g : DTGs) : TGs := fun vs σ H Q => ∃ B ρ ds q, Rep B ρ σ H ∧ IsAll (OW B ρ) H vs ds ∧ g ds ρ q ∧ ∀ ρ' σ', q ρ' → Only ws σ σ' → Adv (OW B ρ) (OW B ρ') H H → Rep B ρ' σ' H → Q σ' H
theorem PG.imp {e : Expr} {t t' : TG} (h : PG X e t) (i : ∀ v σ H Q, t' v σ H Q → t v σ H Q) : PG X e t' := ⟨fun pins s σ H v u Q I r hq => h.run pins s σ H v u Q I r (i v σ H Q hq)⟩
theorem PGs.imp {e : List Expr} {t t' : TGs} (h : PGs X e t) (i : ∀ v σ H Q, t' v σ H Q → t v σ H Q) : PGs X e t' := ⟨fun pins s σ H v u Q I r hq => h.run pins s σ H v u Q I r (i v σ H Q hq)⟩
abbrev DG1 (X : Cx) (e : Expr) (ws : List Nat) (g : DTG) : Prop := PG X e (upTg ws g)
abbrev DGs (X : Cx) (e : List Expr) (ws : List Nat) (g : DTGs) : Prop := PGs X e (upTgs ws g)
variable {ws us : List Nat}
def tgN (i : Nat) : DTG := fun d ρ q => q (ρ.set i (some (.val d)))
theorem dg_name {i : Nat} {x : Str} (hN : X.N.Nodup) (hi : X.N[i]? = some x) (hx : Loc X.env.scope x) (hf : X.fn x = true ∨ X.env.scope.names.lookup x = some .local := by first | exact .inl rfl | exact .inr rfl | assumption) : DG1 X (.Name x pos) [i] (tgN i) :=
  PG.imp (pg_name hN hi hx hf) fun v σ H Q ⟨B, ρ, d, q, R, is, t, k⟩ => by
    obtain ⟨R2, m⟩ := R.setVal (i := i) is
    exact k _ _ t .set m R2
def tgNil : DTGs := fun ds ρ q => ds = [] ∧ q ρ
def tgCons (g : DTG) (h : DTGs) : DTGs := fun ds ρ q => match ds with
  | d :: r => g d ρ fun ρ' => h r ρ' q
  | [] => False
theorem dgs_nil : DGs X [] [] tgNil := PGs.imp pgs_nil fun vs σ H Q ⟨B, ρ, d, q, R, is, t, k⟩ => by
  obtain ⟨rfl, t⟩ := t
  cases is
  exact ⟨rfl, k _ _ t .refl .refl R⟩
theorem dgs_cons {g : DTG} {h : DTGs} (h1 : DG1 X e ws g) (h2 : DGs X es us h) (hs : (assignEach (e :: es) X.env).map (·.2) = assign e X.env :: (assignEach es X.env).map (·.2) := by rfl) : DGs X (e :: es) (ws ++ us) (tgCons g h) := PGs.imp (pgs_cons h1 h2 hs) fun vs σ H Q ⟨B, ρ, ds, q, R, is, t, k⟩ => by
  cases ds with
  | nil => exact t.elim
  | cons d ds =>
    cases is with
    | cons i is =>
      refine ⟨_, _, rfl, B, ρ, d, _, R, i, t, fun ρ1 σ1 t1 y1 m1 R1 => ⟨B, ρ1, ds, q, R1, is.mono m1, t1, fun ρ2 σ2 t2 y2 m2 R2 => k _ _ t2 (y1.app y2) (m1.trans m2) R2⟩⟩
def tgTup (n : Nat) (h : DTGs) : DTG := fun d ρ q => match d with
  | .tuple ds => ds.length = n ∧ h ds ρ q
  | _ => False
theorem dg_tup {h : DTGs} {n kk : Nat} (hc : X.calm = true) (h1 : DGs X es ws h) (hn : (assignEach es X.env).length = n := by rfl) (hst : (assignEach es X.env).findIdx? (·.1) = none := by rfl) : DG1 X (.Tuple es kk pos) ws (tgTup n h) := PG.imp (pg_tup hc h1 hn hst) fun v σ H Q ⟨B, ρ, d, q, R, is, t, k⟩ => by
  unfold tgTup at t
  split at t
  · obtain ⟨a, xs, e1, e2, e3⟩ := is.tup'
    exact ⟨a, xs, e1, SqT.of e2, by rw [e3.length]; exact t.1, B, ρ, _, q, R, e3, t.2, k⟩
  · exact t.elim
/-- target = value -/
def sAsg (ta : DT) (g : DTG) : DTS := fun E ρ => ta ρ fun o ρ1 => o.tk ρ1 fun d ρ2 => g d ρ2 E.nx
theorem ds_asg {tg : Expr} {g : DTG} (ha : DO X a ta) (hg : DG1 X tg ws g) (hs : swapsWithSole [tg] a pos.line X.env = pure false := by rfl) (hw : swappedStores [tg] a X.env = pure none := by rfl) (h1 : (assignEach [tg] X.env).map (·.2) = [assign tg X.env] := by rfl) :
    DS X (.Assign [tg] a pos) (sAsg ta g) := PS.imp (ps_asg ha hg hs hw h1) fun D σ H ⟨B, ρ, E, R, t, k⟩ => by
  refine ⟨B, ρ, _, R, t, fun o ρ1 v H1 t1 m1 R1 i1 => ?_⟩
  obtain ⟨d, ρ2, h2, is, R2, m2⟩ := i1.tk R1 t1
  exact ⟨B, ρ2, d, _, R2, is, h2, fun ρ3 σ3 t3 _ m3 R3 => k.nx _ _ _ t3 ((m1.trans m2).trans m3) R3⟩
/-- name op= value -/
def sAug (i : Nat) (g : D2) (ta : DT) : DTS := fun E ρ => (OV.nm i).rd ρ fun d => ta ρ fun o ρ1 => o.rd ρ1 fun e => g d e fun r => E.nx (ρ1.set i (some (.val r)))
theorem ds_aug {i : Nat} {x : Str} {op : Operator} {ti : TIp} {g : D2} {pos' : Pos} (hN : X.N.Nodup) (hi : X.N[i]? = some x) (hx : Loc X.env.scope x) (ha : DO X a ta) (ho : PIp X op ti) (f : Fit2 ti g) (hsc : ∀ d e q, g d e q → flat d = true) (hf : X.fn x = true ∨ X.env.scope.names.lookup x = some .local := by first | exact .inl rfl | exact .inr rfl | assumption) :
    DS X (.AugAssign (.Name x pos') op a pos) (sAug i g ta) := PS.imp (ps_aug hN hi hx ha ho hf) fun D σ H ⟨B, ρ, E, R, t, k⟩ => by
  simp only [sAug, OV.rd] at t
  have go : ∀ {d : PyData} {v : V}, σ[i]? = some (some v) → RdB (OW B ρ) H v d → (ta ρ fun o ρ1 => o.rd ρ1 fun e => g d e fun r => E.nx (ρ1.set i (some (.val r)))) → tAug i (upO ta) ti D σ H := by
    intro d v hv rv t
    refine ⟨v, hv, B, ρ, _, R, t, fun o ρ1 w H1 t1 m1 R1 i1 => ?_⟩
    obtain ⟨e, t2, r2⟩ := i1.rd R1 t1
    have rv1 : RdB (OW B ρ1) H1 v d := by
      have fl := hsc _ _ _ t2
      rcases rv with rv | ⟨a, rfl, u, hu, hh⟩
      · exact .inl (rv.mono m1)
      · cases hh <;> cases fl
    refine f _ H1 v w d e _ _ R1.owt rv1 r2 t2 fun z dz H2 hq hs hz => ?_
    obtain ⟨R3, m3⟩ := (R1.same hs).setVal (i := i) hz
    exact k.nx _ _ _ hq ((m1.trans (.same hs)).trans m3) R3
  split at t
  · rename_i d e
    obtain ⟨w, e1, e2⟩ := R.val i d e
    exact go e1 (.inl e2) t
  · rename_i a d e
    obtain ⟨e1, e2, e3, _⟩ := R.own i a d e
    exact go e1 (.inr ⟨a, rfl, e3⟩) t
  · exact t.elim
theorem ip_addS : PIp X .Add (fun x y H Q => (∃ i j, x = .int i ∧ y = .int j ∧ Q (.int (i + j)) H) ∨ (∃ i j, x = .str i ∧ y = .str j ∧ i.length + j.length ≤ sizeLine ∧ Q (.str (i ++ j)) H)) := by
  intro pins s σ H x y v u Q I r1 r2 h
  rcases h with h | h
  · exact ip_add pins s σ H x y v u Q I r1 r2 h
  · exact iop_add_str pins s σ H x y v u Q I r1 r2 h
theorem gAdd_flat : ∀ d e q, gAdd d e q → flat d = true := fun d e q h => by
  unfold gAdd at h
  split at h
  · rfl
  · rfl
  · exact h.elim
theorem ds_augAdd {i : Nat} {x : Str} {pos' : Pos} (hN : X.N.Nodup) (hi : X.N[i]? = some x) (hx : Loc X.env.scope x) (ha : DO X a ta) (hf : X.fn x = true ∨ X.env.scope.names.lookup x = some .local := by first | exact .inl rfl | exact .inr rfl | assumption) :
    DS X (.AugAssign (.Name x pos') .Add a pos) (sAug i gAdd ta) := ds_aug hN hi hx ha ip_addS (fun O H x y d e q Q tr hx hy h k => fit_add O H x y d e q Q tr hx hy h k) gAdd_flat hf
theorem ds_augSub {i : Nat} {x : Str} {pos' : Pos} (hN : X.N.Nodup) (hi : X.N[i]? = some x) (hx : Loc X.env.scope x) (ha : DO X a ta) (hf : X.fn x = true ∨ X.env.scope.names.lookup x = some .local := by first | exact .inl rfl | exact .inr rfl | assumption) :
    DS X (.AugAssign (.Name x pos') .Sub a pos) (sAug i (gII (fun _ _ => True) fun i j => .int (i - j)) ta) := ds_aug hN hi hx ha ip_sub (fun O H x y d e q Q tr hx hy h k => fit_rI0 O H x y d e q Q tr hx hy h k) (fun d e q h => by
  unfold gII at h
  split at h
  · rfl
  · exact h.elim) hf

/-! ### while -/
def sWhile (s : DTT) (u : DTS) : DTS := fun E ρ => ∃ W : Nat → DEnv → Prop, (∃ m, W m ρ) ∧ ∀ m ρ, W m ρ → s ρ fun b ρ' => if b = true then u { E with nx := fun ρ'' => ∃ m', m' < m ∧ W m' ρ'', ct := fun ρ'' => ∃ m', m' < m ∧ W m' ρ'', bk := E.nx } ρ' else E.nx ρ'
theorem ds_while {body : List Stmt} (hp : PassesOwn (model X.prog X.w) X.A X.env X.xe) (hc : DP X c s) (hb : DSs X body u) : DS X (.While c body [] pos) (sWhile s u) := PS.imp (ps_while hp hc hb) fun D σ H ⟨B, ρ, E, R, t, k⟩ => by
  obtain ⟨W, ⟨m0, w0⟩, turn⟩ := t
  refine ⟨fun m σ' H' => ∃ ρ', Rep B ρ' σ' H' ∧ Adv (OW B ρ) (OW B ρ') H H' ∧ W m ρ', ⟨m0, ρ, R, .refl, w0⟩, ?_⟩
  rintro m σ1 H1 ⟨ρ1, R1, m1, w1⟩
  refine ⟨B, ρ1, _, R1, turn m ρ1 w1, fun b ρ2 H2 t2 m2 R2 => ?_⟩
  cases b with
  | true =>
    rw [if_pos rfl] at t2 ⊢
    have m12 := m1.trans m2
    refine ⟨fun σ' H' => ∃ m', m' < m ∧ ∃ ρ', Rep B ρ' σ' H' ∧ Adv (OW B ρ) (OW B ρ') H H' ∧ W m' ρ', fun σ' H' z => z, B, ρ2, _, R2, t2, ?_⟩
    refine ⟨fun ρ' σ' H' ⟨m', hm, w⟩ ad R' => ⟨m', hm, ρ', R', m12.trans ad, w⟩, fun d ρ' σ' v H' h ad R' is => k.rt _ _ _ _ _ h (m12.trans ad) R' is, fun ρ' σ' H' h ad R' => k.nx _ _ _ h (m12.trans ad) R', fun ρ' σ' H' ⟨m', hm, w⟩ ad R' => ⟨m', hm, ρ', R', m12.trans ad, w⟩⟩
  | false =>
    rw [if_neg Bool.false_ne_true] at t2 ⊢
    exact k.nx _ _ _ t2 (m1.trans m2) R2

/-! ### what is walked -/
/-- the walk yields the data ds, whatever is written to own containers -/
def Src (J : It) (O : Addr → Prop) (H0 : Hp) (ds : List PyData) : Prop := ∀ (i : Nat) (O' : Addr → Prop) (H : Hp), Adv O O' H0 H →
  (∀ d, ds[i]? = some d → J.go i H ∧ ∀ x H', J.yld i H x H' → Same H H' ∧ Is O' H' x d) ∧ (i = ds.length → J.stop i H)
abbrev DTI := DEnv → (List PyData → DEnv → Prop) → Prop
def upI (t : DTI) : TI := fun σ H R => ∃ B ρ q, Rep B ρ σ H ∧ t ρ q ∧ ∀ ds ρ' J H', q ds ρ' → Adv (OW B ρ) (OW B ρ') H H' → Rep B ρ' σ H' → Src J (OW B ρ') H' ds → R J H'
theorem PI.imp {tg e : Expr} {t t' : TI} (h : PI X tg e t) (i : ∀ σ H R, t' σ H R → t σ H R) : PI X tg e t' := ⟨fun pins s σ H R I hq => h.run pins s σ H R I (i σ H R hq)⟩
abbrev DI (X : Cx) (tg e : Expr) (t : DTI) : Prop := PI X tg e (upI t)
theorem src_list {K : PySem.W.Frag} {O : Addr → Prop} {H0 : Hp} {p : Addr} {xs : List V} {ds : List PyData} (n : ¬ O p) (e : H0 p = some (.lst xs)) (is : IsAll O H0 xs ds) : Src (Itl K p) O H0 ds := fun i O' H m => by
  have e' : H p = some (.lst xs) := m.1 _ _ e (.inl n)
  have only : ∀ ys, SqL K H p ys → True := fun _ _ => trivial
  refine ⟨fun d hd => ?_, fun hl => ⟨xs, SqL.of e', by rw [is.length]; exact Nat.le_of_eq hl.symm⟩⟩
  obtain ⟨v, hv, iv⟩ := is.get hd
  refine ⟨⟨xs, v, SqL.of e', hv⟩, fun x H' hy => ?_⟩
  obtain ⟨rfl, hy⟩ := hy
  have ex : x = v := Option.some.inj ((hy xs (SqL.of e')).symm.trans hv)
  subst ex
  exact ⟨Same.refl _, iv.mono m⟩
theorem src_tup {K : PySem.W.Frag} {O : Addr → Prop} {H0 : Hp} {p : Addr} {xs : List V} {ds : List PyData} (e : H0 p = some (.tup xs)) (is : IsAll O H0 xs ds) : Src (Itt K p) O H0 ds := fun i O' H m => by
  have e' : H p = some (.tup xs) := m.1 _ _ e (.inr rfl)
  refine ⟨fun d hd => ?_, fun hl => ⟨xs, SqT.of e', by rw [is.length]; exact Nat.le_of_eq hl.symm⟩⟩
  obtain ⟨v, hv, iv⟩ := is.get hd
  refine ⟨⟨xs, v, SqT.of e', hv⟩, fun x H' hy => ?_⟩
  obtain ⟨rfl, hy⟩ := hy
  have ex : x = v := Option.some.inj ((hy xs (SqT.of e')).symm.trans hv)
  subst ex
  exact ⟨Same.refl _, iv.mono m⟩
def iL (ta : DT) : DTI := fun ρ q => ta ρ fun o ρ1 => o.tk ρ1 fun d ρ2 => match d with
  | .list ds => q ds ρ2
  | _ => False
theorem di_list {tg : Expr} (ha : DO X a ta) : DI X tg a (iL ta) := PI.imp (pi_list ha) fun σ H R' ⟨B, ρ, q, R, t, k⟩ => by
  refine ⟨B, ρ, _, R, t, fun o ρ1 v H1 t1 m1 R1 i1 => ?_⟩
  obtain ⟨d, ρ2, h2, is, R2, m2⟩ := i1.tk R1 t1
  split at h2
  · cases is with
    | lst n e all => exact ⟨_, rfl, ⟨_, SqL.of e⟩, k _ _ _ _ h2 (m1.trans m2) R2 (src_list n e all)⟩
  · exact h2.elim
def iT (ta : DT) : DTI := fun ρ q => ta ρ fun o ρ1 => o.tk ρ1 fun d ρ2 => match d with
  | .tuple ds => q ds ρ2
  | _ => False
theorem di_tup {tg : Expr} (ha : DO X a ta) : DI X tg a (iT ta) := PI.imp (pi_tup ha) fun σ H R' ⟨B, ρ, q, R, t, k⟩ => by
  refine ⟨B, ρ, _, R, t, fun o ρ1 v H1 t1 m1 R1 i1 => ?_⟩
  obtain ⟨d, ρ2, h2, is, R2, m2⟩ := i1.tk R1 t1
  split at h2
  · cases is with
    | tup e all => exact ⟨_, rfl, ⟨_, SqT.of e⟩, k _ _ _ _ h2 (m1.trans m2) R2 (src_tup e all)⟩
  · exact h2.elim
/-- a text, sign by sign -/
def iS (ta : DT) : DTI := fun ρ q => ta ρ fun o ρ1 => o.rd ρ1 fun d => match d with
  | .str x => q ((L x).map fun c => S [c]) ρ1
  | _ => False
theorem di_str {tg : Expr} (ha : DO X a ta) : DI X tg a (iS ta) := PI.imp (pi_str ha) fun σ H R' ⟨B, ρ, q, R, t, k⟩ => by
  refine ⟨B, ρ, _, R, t, fun o ρ1 v H1 t1 m1 R1 i1 => ?_⟩
  obtain ⟨d, h2, r2⟩ := i1.rd R1 t1
  split at h2
  · rename_i x
    refine ⟨x, r2.str, k _ _ _ _ h2 m1 R1 fun i O' H m => ⟨fun d hd => ?_, fun hl => ?_⟩⟩
    · rw [List.getElem?_map] at hd
      cases q : (L x)[i]? with
      | none => rw [q] at hd; cases hd
      | some c =>
        rw [q] at hd
        cases hd
        have q' : x.cps[i]? = some c := by rw [← Array.getElem?_toList]; exact q
        have hi : i < x.cps.size := (Array.getElem?_eq_some_iff.mp q').1
        refine ⟨hi, fun y H' ⟨e, c', hc, ey⟩ => ?_⟩
        rw [q'] at hc
        cases hc
        subst e ey
        exact ⟨Same.refl _, .str _⟩
    · rw [List.length_map, L_len] at hl
      exact Nat.le_of_eq hl.symm
  · exact h2.elim
/-- range(n), range(a, b) -/
def iR1 (t : DTA) : DTI := fun ρ q => t ρ fun os ρ1 => rdAll os ρ1 fun ds => match ds with
  | [.int j] => -4611686018427387904 ≤ j ∧ j < 4611686018427387904 ∧ q ((List.range j.toNat).map fun k => .int (k : Nat)) ρ1
  | _ => False
theorem src_range {O : Addr → Prop} {H0 : Hp} {lo : Int} {n : Nat} : Src (Itr lo n) O H0 ((List.range n).map fun k => .int (lo + (k : Nat))) := fun i O' H m => by
  refine ⟨fun d hd => ?_, fun hl => by rw [List.length_map, List.length_range] at hl; exact Nat.le_of_eq hl.symm⟩
  rw [List.getElem?_map] at hd
  by_cases hi : i < n
  · rw [List.getElem?_range hi] at hd
    cases hd
    refine ⟨hi, fun x H' ⟨e, ex⟩ => ?_⟩
    subst e ex
    exact ⟨Same.refl _, .int _⟩
  · rw [List.getElem?_eq_none (by rw [List.length_range]; omega)] at hd
    cases hd
theorem di_range1 {tg : Expr} {p : Pos} (hg : Gl X "range") (hm : X.mg "range" = none) (ha : DA X [a] t) (hs : starEach [a] X.env = [(false, eval a X.env)] := by rfl) : DI X tg (.Call (.Name "range" p) [a] [] pos) (iR1 t) := PI.imp (pi_range1 hg hm ha hs) fun σ H R' ⟨B, ρ, q, R, t, k⟩ => by
  refine ⟨B, ρ, _, R, t, fun os ρ1 vs H1 t1 m1 R1 i1 => ?_⟩
  obtain ⟨ds, t2, rs⟩ := OAll.rd R1 i1 t1
  split at t2
  · rename_i j
    obtain ⟨x, rfl, r⟩ := rdAll1 rs
    obtain rfl := r.int
    obtain ⟨b1, b2, t2⟩ := t2
    refine ⟨j, rfl, by omega, by omega, k _ _ _ _ t2 m1 R1 ?_⟩
    have := src_range (O := OW B ρ1) (H0 := H1) (lo := 0) (n := j.toNat)
    simpa using this
  · exact t2.elim
def iR2 (t : DTA) : DTI := fun ρ q => t ρ fun os ρ1 => rdAll os ρ1 fun ds => match ds with
  | [.int i, .int j] => (-4611686018427387904 ≤ i ∧ i < 4611686018427387904 ∧ -4611686018427387904 ≤ j ∧ j < 4611686018427387904) ∧ q ((List.range (j - i).toNat).map fun k => .int (i + (k : Nat))) ρ1
  | _ => False
theorem di_range2 {tg : Expr} {p : Pos} (hg : Gl X "range") (hm : X.mg "range" = none) (ha : DA X [a, b] t) (hs : starEach [a, b] X.env = [(false, eval a X.env), (false, eval b X.env)] := by rfl) (hs2 : starEach [b] X.env = [(false, eval b X.env)] := by rfl) : DI X tg (.Call (.Name "range" p) [a, b] [] pos) (iR2 t) := PI.imp (pi_range2 hg hm ha hs hs2) fun σ H R' ⟨B, ρ, q, R, t, k⟩ => by
  refine ⟨B, ρ, _, R, t, fun os ρ1 vs H1 t1 m1 R1 i1 => ?_⟩
  obtain ⟨ds, t2, rs⟩ := OAll.rd R1 i1 t1
  split at t2
  · rename_i i j
    obtain ⟨x, y, rfl, r, r'⟩ := rdAll2 rs
    obtain rfl := r.int
    obtain rfl := r'.int
    obtain ⟨b1, t2⟩ := t2
    exact ⟨i, j, rfl, by omega, k _ _ _ _ t2 m1 R1 src_range⟩
  · exact t2.elim

/-! ### for -/
def forGo (g : DTG) (u : DTS) (E : DEnds) : List PyData → DEnv → Prop
  | [], ρ => E.nx ρ
  | d :: ds, ρ => g d ρ fun ρ1 => u { E with nx := forGo g u E ds, ct := forGo g u E ds, bk := E.nx } ρ1
def sFor (ti : DTI) (g : DTG) (u : DTS) : DTS := fun E ρ => ti ρ fun ds ρ1 => forGo g u E ds ρ1
theorem ds_for {tg iter : Expr} {body : List Stmt} {ti : DTI} {g : DTG} (hp : PassesOwn (model X.prog X.w) X.A X.env X.xe) (hc : X.calm = true) (hi : DI X tg iter ti) (hg : DG1 X tg ws g) (hb : DSs X body u) (hs : ∀ x, foldedSetIterable iter X.env x = pure x := by intro _; rfl) :
    DS X (.For tg iter body [] pos) (sFor ti g u) := PS.imp (ps_for hp hc hi hg hb hs) fun D σ H ⟨B, ρ, E, R, t, k⟩ => by
  refine ⟨B, ρ, _, R, t, fun ds ρ1 J H1 t1 m1 R1 src => ?_⟩
  refine ⟨fun i m σ' H' => ∃ ρ', Rep B ρ' σ' H' ∧ Adv (OW B ρ1) (OW B ρ') H1 H' ∧ forGo g u E (ds.drop i) ρ' ∧ i ≤ ds.length ∧ m = ds.length - i, ⟨ds.length, ρ1, R1, .refl, t1, Nat.zero_le _, rfl⟩, ?_⟩
  rintro i m σ2 H2 ⟨ρ2, R2, m2, f2, hi, rfl⟩
  obtain ⟨s1, s2⟩ := src i _ _ m2
  by_cases hlt : i < ds.length
  · obtain ⟨go, yl⟩ := s1 ds[i] (List.getElem?_eq_getElem hlt)
    refine .inr ⟨go, fun σ' H' => ∃ ρ', Rep B ρ' σ' H' ∧ Adv (OW B ρ1) (OW B ρ') H1 H' ∧ forGo g u E (ds.drop (i + 1)) ρ', fun σ' H' ⟨ρ', R', m', f'⟩ => ⟨ds.length - (i + 1), by omega, ρ', R', m', f', hlt, rfl⟩, fun x H3 hy => ?_⟩
    obtain ⟨hs, is⟩ := yl x H3 hy
    rw [List.drop_eq_getElem_cons hlt] at f2
    refine ⟨B, ρ2, ds[i], _, R2.same hs, is, f2, fun ρ3 σ3 t3 _ m3 R3 => ⟨B, ρ3, _, R3, t3, ?_⟩⟩
    have m13 := (m2.trans (.same hs)).trans m3
    exact ⟨fun ρ' σ' H' h ad R' => ⟨ρ', R', m13.trans ad, h⟩, fun d ρ' σ' v H' h ad R' is => k.rt _ _ _ _ _ h ((m1.trans m13).trans ad) R' is, fun ρ' σ' H' h ad R' => k.nx _ _ _ h ((m1.trans m13).trans ad) R', fun ρ' σ' H' h ad R' => ⟨ρ', R', m13.trans ad, h⟩⟩
  · have e : ds.drop i = [] := List.drop_eq_nil_of_le (by omega)
    rw [e] at f2
    exact .inl ⟨s2 (by omega), k.nx _ _ _ f2 (m1.trans m2) R2⟩
end
end DL
namespace DL
open PySem PySem.Spec PyProof.Rows L2

/-! ### comprehensions -/
/-- the names of a comprehension have no value at its beginning -/
def wipeD (ρ : DEnv) : List Nat → DEnv
  | [] => ρ
  | i :: r => wipeD (ρ.set i none) r
/-- behind a turn they are what they were outside -/
def backD (ρ0 ρ : DEnv) : List Nat → DEnv
  | [] => ρ
  | i :: r => backD ρ0 (ρ.set i (ρ0.getD i none)) r
def plain1 (ρ : DEnv) (i : Nat) : Bool := match ρ[i]? with
  | some (some (.own _ _)) => false
  | some (some (.deep _ _)) => false
  | _ => true
def plainC (ρ : DEnv) (vs : List Nat) : Bool := vs.all (plain1 ρ)
def lcGo (g : DTG) (tt : DTT) (te : DT) (vs : List Nat) : List PyData → List PyData → DEnv → (PyData → DEnv → Prop) → Prop
  | [], acc, ρ, q => q (.list acc) ρ
  | d :: ds, acc, ρ, q => g d (wipeD ρ vs) fun ρ1 => tt ρ1 fun b ρ2 =>
    if b = true then te ρ2 fun o ρ3 => o.tk ρ3 fun e ρ4 => acc.length < 16777216 ∧ plainC (backD ρ ρ4 vs) vs = true ∧ lcGo g tt te vs ds (acc ++ [e]) (backD ρ ρ4 vs) q
    else plainC (backD ρ ρ2 vs) vs = true ∧ lcGo g tt te vs ds acc (backD ρ ρ2 vs) q
def fLc (ti : DTI) (g : DTG) (tt : DTT) (te : DT) (vs : List Nat) : DTF := fun ρ q => ti ρ fun ds ρ1 => plainC ρ1 vs = true ∧ lcGo g tt te vs ds [] ρ1 q

theorem wipe_len (σ : L2.St) : ∀ vs : List Nat, (wipe σ vs).length = σ.length := wipe_length σ
theorem wipe_in {σ : L2.St} {j : Nat} : ∀ {vs : List Nat}, j ∈ vs → (wipe σ vs)[j]? = if j < σ.length then some none else none := by
  intro vs
  induction vs generalizing σ with
  | nil => intro h; simp at h
  | cons i r ih =>
    intro h
    have e : wipe σ (i :: r) = (wipe σ r).set i none ∨ wipe σ (i :: r) = wipe (σ.set i none) r := by first | exact .inl rfl | exact .inr rfl
    rcases e with e | e
    · rw [e]
      by_cases hj : j = i
      · subst hj
        by_cases hl : j < σ.length
        · rw [if_pos hl, List.getElem?_set_self (by rw [wipe_length]; exact hl)]
        · rw [if_neg hl, List.getElem?_eq_none (by rw [List.length_set, wipe_length]; omega)]
      · rw [List.getElem?_set_ne (Ne.symm hj)]
        exact ih ((List.mem_cons.mp h).resolve_left hj)
    · rw [e]
      by_cases hr : j ∈ r
      · rw [ih hr, List.length_set]
      · have hj : j = i := (List.mem_cons.mp h).resolve_right hr
        subst hj
        rw [wipe_out hr]
        by_cases hl : j < σ.length
        · rw [if_pos hl, List.getElem?_set_self hl]
        · rw [if_neg hl, List.getElem?_eq_none (by rw [List.length_set]; omega)]
/-- who differ at vs alone are alike when wiped there -/
theorem wipe_only {σ σ2 : L2.St} {vs : List Nat} (h : ∀ j, j ∉ vs → σ2[j]? = (wipe σ vs)[j]?) (hl : σ2.length = (wipe σ vs).length) : wipe σ2 vs = wipe σ vs := by
  refine List.ext_getElem? fun j => ?_
  by_cases hj : j ∈ vs
  · rw [wipe_in hj, wipe_in hj, hl, wipe_length]
  · rw [wipe_out hj, h j hj]
section
variable {B : Bs} {ρ ρ' : DEnv} {σ σ' : L2.St} {H H' : Hp}
theorem wipeD_len : ∀ (vs : List Nat) (ρ : DEnv), (wipeD ρ vs).length = ρ.length
  | [], _ => rfl
  | i :: r, ρ => by
    show (wipeD (ρ.set i none) r).length = _
    rw [wipeD_len r, List.length_set]
theorem Rep.wipes : ∀ (vs : List Nat) (ρ : DEnv) (σ : L2.St), Rep B ρ σ H → Rep B (wipeD ρ vs) (L2.wipe σ vs) H ∧ Adv (OW B ρ) (OW B (wipeD ρ vs)) H H := by
  intro vs
  induction vs with
  | nil => intro ρ σ R; exact ⟨R, .refl⟩
  | cons i r ih =>
    intro ρ σ R
    have e : L2.wipe σ (i :: r) = (L2.wipe σ r).set i none ∨ L2.wipe σ (i :: r) = L2.wipe (σ.set i none) r := by first | exact .inl rfl | exact .inr rfl
    obtain ⟨R1, m1⟩ := R.wipe (i := i) none
    obtain ⟨R2, m2⟩ := ih _ _ R1
    refine ⟨?_, m1.trans m2⟩
    rcases e with e | e
    · rw [e]
      have e2 : (L2.wipe σ r).set i none = L2.wipe (σ.set i none) r := by
        refine List.ext_getElem? fun j => ?_
        by_cases hj : j = i
        · subst hj
          by_cases hr : j ∈ r
          · rw [wipe_in hr, List.length_set]
            by_cases hl : j < σ.length
            · rw [if_pos hl, List.getElem?_set_self (by rw [wipe_length]; exact hl)]
            · rw [if_neg hl, List.getElem?_eq_none (by rw [List.length_set, wipe_length]; omega)]
          · rw [wipe_out hr]
            by_cases hl : j < σ.length
            · rw [List.getElem?_set_self (by rw [wipe_length]; exact hl), List.getElem?_set_self hl]
            · rw [List.getElem?_eq_none (by rw [List.length_set, wipe_length]; omega), List.getElem?_eq_none (by rw [List.length_set]; omega)]
        · rw [List.getElem?_set_ne (Ne.symm hj)]
          by_cases hr : j ∈ r
          · rw [wipe_in hr, wipe_in hr, List.length_set]
          · rw [wipe_out hr, wipe_out hr, List.getElem?_set_ne (Ne.symm hj)]
      rw [e2]
      exact R2
    · rw [e]
      exact R2
theorem back_get (ρ0 : DEnv) : ∀ (vs : List Nat) (ρ : DEnv) (j : Nat), (backD ρ0 ρ vs)[j]? = if j ∈ vs then (if j < ρ.length then some (ρ0.getD j none) else none) else ρ[j]? := by
  intro vs
  induction vs with
  | nil => intro ρ j; simp [backD]
  | cons i r ih =>
    intro ρ j
    show (backD ρ0 (ρ.set i (ρ0.getD i none)) r)[j]? = _
    rw [ih, List.length_set]
    by_cases hr : j ∈ r
    · rw [if_pos hr, if_pos (List.mem_cons_of_mem _ hr)]
    · rw [if_neg hr]
      by_cases hj : j = i
      · subst hj
        rw [if_pos (List.mem_cons_self ..)]
        by_cases hl : j < ρ.length
        · rw [if_pos hl, List.getElem?_set_self hl]
        · rw [if_neg hl, List.getElem?_eq_none (by rw [List.length_set]; omega)]
      · rw [if_neg (fun z => (List.mem_cons.mp z).elim hj hr), List.getElem?_set_ne (Ne.symm hj)]
theorem plain_val {ρ : DEnv} {i : Nat} {c : Cell} (h : plain1 ρ i = true) (e : ρ[i]? = some (some c)) : ∃ d, c = .val d := by
  unfold plain1 at h
  rw [e] at h
  cases c with
  | val d => exact ⟨d, rfl⟩
  | own a d => cases h
  | deep P d => cases h
/-- behind a turn of a comprehension: the names outside -/
theorem Rep.back {vs : List Nat} (R : Rep B ρ σ H) (R' : Rep B ρ' σ' H') (m : Adv (OW B ρ) (OW B ρ') H H') (hp : plainC ρ vs = true) (ho : ∀ j, j ∉ vs → σ'[j]? = σ[j]?) (hl : σ'.length = σ.length) :
    Rep B (backD ρ ρ' vs) σ H' ∧ Adv (OW B ρ') (OW B (backD ρ ρ' vs)) H' H' := by
  have cell : ∀ (j : Nat) (c : Cell), (backD ρ ρ' vs)[j]? = some (some c) → (j ∈ vs ∧ ∃ d, c = .val d ∧ ρ[j]? = some (some c)) ∨ (j ∉ vs ∧ ρ'[j]? = some (some c)) := fun j c e => by
    rw [back_get] at e
    by_cases hj : j ∈ vs
    · rw [if_pos hj] at e
      split at e
      · have e' : ρ[j]? = some (some c) := by
          have e2 : ρ.getD j none = some c := Option.some.inj e
          rw [List.getD_eq_getElem?_getD] at e2
          cases q : ρ[j]? with
          | none => rw [q] at e2; cases e2
          | some x => rw [q] at e2; exact congrArg some e2
        obtain ⟨d, hd⟩ := plain_val (List.all_eq_true.mp hp j hj) e'
        exact .inl ⟨hj, d, hd, e'⟩
      · cases e
    · rw [if_neg hj] at e
      exact .inr ⟨hj, e⟩
  have sub : ∀ a, OW B (backD ρ ρ' vs) a → OW B ρ' a := fun a z => z.elim .inl fun ⟨j, c, e, z⟩ => by
    rcases cell j c e with ⟨_, d, rfl, _⟩ | ⟨_, e⟩
    · exact z.elim
    · exact .inr ⟨j, c, e, z⟩
  have m2 := Adv.sub (H := H') sub
  have ll : ∀ (vs : List Nat) (ρ' : DEnv), (backD ρ ρ' vs).length = ρ'.length := by
    intro vs
    induction vs with
    | nil => intro ρ'; rfl
    | cons i r ih => intro ρ'; show (backD ρ (ρ'.set i (ρ.getD i none)) r).length = _; rw [ih, List.length_set]
  refine ⟨⟨by rw [ll, R'.len, hl], R'.trk, fun j c e => ?_, fun j c a e z => ?_, fun j k c c' a ej ek z z' => ?_, R'.keep⟩, m2⟩
  · rcases cell j c e with ⟨_, d, rfl, e1⟩ | ⟨hj, e1⟩
    · obtain ⟨v, h1, h2⟩ := R.val j d e1
      exact ⟨v, h1, Is.mono m2 (Is.mono m h2)⟩
    · obtain ⟨v, h1, h2⟩ := R'.cel j c e1
      exact ⟨v, by rw [← ho j hj]; exact h1, h2.mono m2 (fun _ _ _ e => e) fun _ _ e _ => e⟩
  · rcases cell j c e with ⟨_, d, rfl, e1⟩ | ⟨hj, e1⟩
    · exact z.elim
    · exact R'.adr j c a e1 z
  · rcases cell j c ej with ⟨_, d, rfl, e1⟩ | ⟨hj, e1⟩
    · exact z.elim
    · rcases cell k c' ek with ⟨_, d, rfl, e2⟩ | ⟨hk, e2⟩
      · exact z'.elim
      · exact R'.inj j k c c' a e1 e2 z z'
/-- a container of the callers' (or of no name) is written -/
theorem Rep.writeO (R : Rep B ρ σ H) {p : Addr} {u : HO} (hO : B.O p) (hm : B.mu p ∨ B.H0 p = none) (hu : isTup u = false) : Rep B ρ σ (upd H p u) ∧ Adv (OW B ρ) (OW B ρ) H (upd H p u) := by
  have nt : ∀ b o, H b = some o → isTup o = true → b ≠ p := fun b o e k z => by
    subst z
    obtain ⟨o', e', t'⟩ := R.trk b hO
    rw [e] at e'; cases e'; rw [k] at t'; cases t'
  have m : Adv (OW B ρ) (OW B ρ) H (upd H p u) := by
    refine ⟨fun b o e k => ?_, fun _ _ _ k => k⟩
    have ne : b ≠ p := by
      rintro rfl
      rcases k with k | k
      · exact k (.inl hO)
      · exact nt _ o e k rfl
    rw [upd_ne ne]; exact e
  refine ⟨⟨R.len, fun a h => ?_, fun i c h => ?_, fun i c a h z => ?_, R.inj, fun b o e n => ?_⟩, m⟩
  · by_cases e : a = p
    · subst e; exact ⟨u, upd_same, hu⟩
    · obtain ⟨o, h1, h2⟩ := R.trk a h
      exact ⟨o, by rw [upd_ne e]; exact h1, h2⟩
  · obtain ⟨v, h1, h2⟩ := R.cel i c h
    refine ⟨v, h1, h2.mono m (fun a o z e => ?_) fun a o e k => by rw [upd_ne (nt a o e k)]; exact e⟩
    rw [upd_ne (show a ≠ p from fun q => (R.adr i c a h z).2.1 (q ▸ hO))]
    exact e
  · obtain ⟨⟨o, h1, h2⟩, h3, h4⟩ := R.adr i c a h z
    exact ⟨⟨o, by rw [upd_ne (show a ≠ p from fun q => h3 (q ▸ hO))]; exact h1, h2⟩, h3, h4⟩
  · have ne : b ≠ p := fun z => by
      subst z
      rcases hm with z | z
      · exact n z
      · rw [z] at e; cases e
    rw [upd_ne ne]
    exact R.keep b o e n
end
section
variable {X : Cx} {elt tg iter : Expr} {ifs : List Expr} {scope : Scope} {own : List (Str × Nat)} {pos : Pos} {ti : DTI} {g : DTG} {tt : DTT} {te : DT} {ws vs : List Nat}
theorem upLc {σ : L2.St} {H : Hp} {Q : VK} (hws : ∀ i ∈ ws, i ∈ vs) (h : upF (fLc ti g tt te vs) σ H Q) : tLc (upI ti) (upTg ws g) (upT tt) (upO te) vs σ H Q := by
  obtain ⟨B, ρ, q, R, t, k⟩ := h
  refine ⟨B, ρ, _, R, t, fun ds ρ1 J H1 t1 m1 R1 src D hD => ?_⟩
  obtain ⟨hp1, t1⟩ := t1
  obtain ⟨e1, e2⟩ := R1.entry hD
  obtain ⟨R1', tp1, m1'⟩ := R1.fresh (p := D) (u := .lst []) (d := .list []) hD (.lst .nil)
  refine ⟨fun i m H' => ∃ ρ' acc xs, Rep (B.plus D) ρ' σ H' ∧ Adv (OW B ρ1) (OW (B.plus D) ρ') H1 H' ∧ H' D = some (.lst xs) ∧ IsAll (OW (B.plus D) ρ') H' xs acc ∧ plainC ρ' vs = true ∧ lcGo g tt te vs (ds.drop i) acc ρ' q ∧ i ≤ ds.length ∧ m = ds.length - i,
    ⟨ds.length, ρ1, [], [], R1', m1', upd_same, .nil, hp1, t1, Nat.zero_le _, rfl⟩, ?_⟩
  rintro i m H2 ⟨ρ2, acc, xs, R2, m2, hD2, all, hp2, f2, hi, rfl⟩
  obtain ⟨s1, s2⟩ := src i _ _ m2
  by_cases hlt : i < ds.length
  · obtain ⟨go, yl⟩ := s1 ds[i] (List.getElem?_eq_getElem hlt)
    refine .inr ⟨go, fun H' => ∃ ρ' acc xs, Rep (B.plus D) ρ' σ H' ∧ Adv (OW B ρ1) (OW (B.plus D) ρ') H1 H' ∧ H' D = some (.lst xs) ∧ IsAll (OW (B.plus D) ρ') H' xs acc ∧ plainC ρ' vs = true ∧ lcGo g tt te vs (ds.drop (i + 1)) acc ρ' q,
      fun H' ⟨ρ', acc', xs', a1, a2, a3, a4, a5, a6⟩ => ⟨ds.length - (i + 1), by omega, ρ', acc', xs', a1, a2, a3, a4, a5, a6, hlt, rfl⟩, fun x H3 hy => ?_⟩
    obtain ⟨hs, is⟩ := yl x H3 hy
    have R3 := R2.same hs
    have ms : Adv (OW (B.plus D) ρ2) (OW (B.plus D) ρ2) H2 H3 := .same hs
    have hD3 : H3 D = some (.lst xs) := hs _ _ hD2
    obtain ⟨Rw, mw⟩ := Rep.wipes vs ρ2 σ R3
    have Rr := Rw.re
    rw [List.drop_eq_getElem_cons hlt] at f2
    refine ⟨_, wipeD ρ2 vs, ds[i], _, Rr, is.mono mw, f2, fun ρ3 σ3 t3 y3 m3 R3' => ⟨wipe_only (fun j hj => y3.2 j fun z => hj (hws j z)) y3.1, _, ρ3, _, R3', t3, fun b ρ4 H4 t4 m4 R4 => ?_⟩⟩
    have nD : ¬ owns (wipeD ρ2 vs) D := fun ⟨j, c, e, z⟩ => (Rw.adr j c D e z).2.1 (.inr rfl)
    have agree : ∀ j, j ∉ vs → σ3[j]? = σ[j]? := fun j hj => (y3.2 j fun z => hj (hws j z)).trans (wipe_out hj)
    have slen : σ3.length = σ.length := y3.1.trans (wipe_length _ _)
    -- the turn's end
    have fin : ∀ {ρ5 : DEnv} {H5 : Hp}, Rep ((B.plus D).re (wipeD ρ2 vs) H3) ρ5 σ3 H5 → Adv (OW ((B.plus D).re (wipeD ρ2 vs) H3) (wipeD ρ2 vs)) (OW ((B.plus D).re (wipeD ρ2 vs) H3) ρ5) H3 H5 →
        Rep (B.plus D) (backD ρ2 ρ5 vs) σ H5 ∧ Adv (OW (B.plus D) ρ2) (OW (B.plus D) (backD ρ2 ρ5 vs)) H2 H5 ∧ H5 D = some (.lst xs) ∧ Adv (OW (B.plus D) ρ5) (OW (B.plus D) (backD ρ2 ρ5 vs)) H5 H5 := by
      intro ρ5 H5 R5 m5
      have R5' : Rep (B.plus D) ρ5 σ3 H5 := Rw.unre R5
      have m35 : Adv (OW (B.plus D) ρ2) (OW (B.plus D) ρ5) H3 H5 := mw.trans m5
      obtain ⟨R6, m6⟩ := R3.back R5' m35 hp2 agree slen
      exact ⟨R6, (ms.trans m35).trans m6, R5.keep D _ hD3 nD, m6⟩
    cases b with
    | true =>
      dsimp only
      rw [if_pos rfl] at t4 ⊢
      refine ⟨_, ρ4, _, R4, t4, fun o ρ5 y H5 t5 m5 R5 i5 => ?_⟩
      obtain ⟨e, ρ6, ⟨hl, hp6, t6⟩, ie, R6, m6⟩ := i5.tk R5 t5
      obtain ⟨R7, m7, hD7, m67⟩ := fin R6 (((m3.trans m4).trans m5).trans m6)
      obtain ⟨R8, m8⟩ := R7.writeO (p := D) (u := .lst (xs ++ [y])) (.inr rfl) e2 rfl
      have ie' : Is (OW (B.plus D) ρ6) H5 y e := ie
      refine ⟨xs, hD7, by rw [all.length, sizeLine_eq]; exact hl, backD ρ2 ρ6 vs, acc ++ [e], xs ++ [y], R8, (m2.trans m7).trans m8, upd_same, ?_, hp6, t6⟩
      exact ((all.mono m7).mono m8).append (.cons ((ie'.mono m67).mono m8) .nil)
    | false =>
      dsimp only
      rw [if_neg Bool.false_ne_true] at t4 ⊢
      obtain ⟨R7, m7, hD7, m67⟩ := fin R4 (m3.trans m4)
      exact ⟨backD ρ2 ρ4 vs, acc, xs, R7, m2.trans m7, hD7, all.mono m7, t4.1, t4.2⟩
  · have e : ds.drop i = [] := List.drop_eq_nil_of_le (by omega)
    rw [e] at f2
    exact .inl ⟨s2 (by omega), k _ _ _ _ f2 e1 e2 (m1.trans m2) R2 ⟨_, hD2, .lst all⟩⟩
def dYes : DTT := fun ρ q => q true ρ
theorem dts_nil : PTs X [] (upT dYes) := ⟨fun pins s σ H Q I ⟨B, ρ, q, R, t, k⟩ => pts_nil.run pins s σ H Q I (k _ _ _ t .refl R)⟩
theorem dts_one {c : Expr} {s : DTT} (h : DP X c s) : PTs X [c] (upT s) := pts_one h
theorem dfr_lc (hws : ∀ i ∈ ws, i ∈ own.map (·.2)) (hc : X.calm = true) (hN : X.N.Nodup) (hi : DI X tg iter ti) (ok : BlkOk X.N X.env.scope scope own)
    (hg : ∀ (s : Shared) (H : Hp) (C : Addr) (cl : List (Str × Addr)) (fp : List Addr), DG1 (X.blk s H scope (compEnvC scope cl C X.env) fp) tg ws g) (ht : ∀ (s : Shared) (H : Hp) (C : Addr) (cl : List (Str × Addr)) (fp : List Addr), PTs (X.blk s H scope (compEnvC scope cl C X.env) fp) ifs (upT tt))
    (he : ∀ (s : Shared) (H : Hp) (C : Addr) (cl : List (Str × Addr)) (fp : List Addr), DO (X.blk s H scope (compEnvC scope cl C X.env) fp) elt te) (hs : ∀ x, foldedSetIterable iter X.env x = pure x := by intro _; rfl) :
    DFr X (.ListComp elt [⟨tg, iter, ifs, 0⟩] scope pos) (fLc ti g tt te (own.map (·.2))) := PE.imp (pe_lc hc hN hi ok hg ht he hs) fun _ _ _ h => upLc hws h
theorem ds_setLc {i : Nat} {y : Str} {py spos : Pos} (hws : ∀ i ∈ ws, i ∈ own.map (·.2)) (hc : X.calm = true) (hN : X.N.Nodup) (hy : X.N[i]? = some y) (hyl : X.env.scope.names.lookup y = some .local)
    (hsw : swapsWith (.ListComp elt [⟨tg, iter, ifs, 0⟩] scope pos) (some (.Name y py)) spos.line X.env = pure true) (hi : DI X tg iter ti) (ok : BlkOk X.N X.env.scope scope own)
    (hg : ∀ (s : Shared) (H : Hp) (C : Addr) (cl : List (Str × Addr)) (fp : List Addr), DG1 (X.blk s H scope (compEnvC scope cl C X.env) fp) tg ws g) (ht : ∀ (s : Shared) (H : Hp) (C : Addr) (cl : List (Str × Addr)) (fp : List Addr), PTs (X.blk s H scope (compEnvC scope cl C X.env) fp) ifs (upT tt))
    (he : ∀ (s : Shared) (H : Hp) (C : Addr) (cl : List (Str × Addr)) (fp : List Addr), DO (X.blk s H scope (compEnvC scope cl C X.env) fp) elt te) (hs : ∀ x, foldedSetIterable iter X.env x = pure x := by intro _; rfl) :
    DS X (.Assign [.Name y py] (.ListComp elt [⟨tg, iter, ifs, 0⟩] scope pos) spos) (sSetF i (fLc ti g tt te (own.map (·.2)))) := PS.imp (ps_setLc hc hN hy hyl hsw hi ok hg ht he hs) fun D σ H ⟨B, ρ, E, R, t, k⟩ => by
  refine upLc (Q := fun x H1 => gName i x σ H1 D.nx) hws ⟨B, ρ, _, R, t, fun p d ρ1 H1 t1 n1 n2 m1 R1 tp => ?_⟩
  obtain ⟨R2, m2⟩ := R1.adopt (i := i) tp n1 n2
  exact k.nx _ _ _ (t1 p) (m1.trans m2) R2
end

section
variable {X : Cx} {elt tg iter : Expr} {ifs : List Expr} {scope : Scope} {own : List (Str × Nat)} {pos : Pos} {ti : DTI} {g : DTG} {tt : DTT} {te : DT} {ws vs : List Nat}
/-- a name is given a comprehension's list, which is not written any more -/
def sSetV (i : Nat) (tf : DTF) : DTS := fun E ρ => tf ρ fun d ρ' => E.nx (ρ'.set i (some (.val d)))
theorem ds_setLcV {i : Nat} {y : Str} {py spos : Pos} (hws : ∀ i ∈ ws, i ∈ own.map (·.2)) (hc : X.calm = true) (hN : X.N.Nodup) (hy : X.N[i]? = some y) (hyl : X.env.scope.names.lookup y = some .local)
    (hsw : swapsWith (.ListComp elt [⟨tg, iter, ifs, 0⟩] scope pos) (some (.Name y py)) spos.line X.env = pure true) (hi : DI X tg iter ti) (ok : BlkOk X.N X.env.scope scope own)
    (hg : ∀ (s : Shared) (H : Hp) (C : Addr) (cl : List (Str × Addr)) (fp : List Addr), DG1 (X.blk s H scope (compEnvC scope cl C X.env) fp) tg ws g) (ht : ∀ (s : Shared) (H : Hp) (C : Addr) (cl : List (Str × Addr)) (fp : List Addr), PTs (X.blk s H scope (compEnvC scope cl C X.env) fp) ifs (upT tt))
    (he : ∀ (s : Shared) (H : Hp) (C : Addr) (cl : List (Str × Addr)) (fp : List Addr), DO (X.blk s H scope (compEnvC scope cl C X.env) fp) elt te) (hs : ∀ x, foldedSetIterable iter X.env x = pure x := by intro _; rfl) :
    DS X (.Assign [.Name y py] (.ListComp elt [⟨tg, iter, ifs, 0⟩] scope pos) spos) (sSetV i (fLc ti g tt te (own.map (·.2)))) := PS.imp (ps_setLc hc hN hy hyl hsw hi ok hg ht he hs) fun D σ H ⟨B, ρ, E, R, t, k⟩ => by
  refine upLc (Q := fun x H1 => gName i x σ H1 D.nx) hws ⟨B, ρ, _, R, t, fun p d ρ1 H1 t1 n1 n2 m1 R1 tp => ?_⟩
  have np : ¬ OW B ρ1 p := fun z => z.elim n1 fun ⟨i, c, h, z⟩ => (R1.adr i c p h z).2.1 (.inr rfl)
  obtain ⟨R2, m2⟩ := R1.drop
  obtain ⟨R3, m3⟩ := R2.setVal (i := i) ((tp.mono m2 rfl).is np)
  exact k.nx _ _ _ t1 ((m1.trans m2).trans m3) R3
end

/-! ### lists that are written -/
section
variable {X : Cx} {a b c e : Expr} {es : List Expr} {ta tb tc : DT} {t : DTA} {pos : Pos} {x : Str}
def sAppend (i : Nat) (ta : DT) : DTS := fun E ρ => match ρ[i]? with
  | some (some (.own _ (.list _))) => ta ρ fun o ρ1 => o.tk ρ1 fun d ρ2 => match ρ2[i]? with
    | some (some (.own a (.list ds))) => ds.length < 16777216 ∧ E.nx (ρ2.set i (some (.own a (.list (ds ++ [d])))))
    | _ => False
  | _ => False
theorem Top.lst_of {O : Addr → Prop} {H : Hp} {a : Addr} {ds : List PyData} (h : Top O H a (.list ds)) : ∃ xs, H a = some (.lst xs) ∧ IsAll O H xs ds := by
  obtain ⟨u, e, h⟩ := h
  cases h with
  | lst r => exact ⟨_, e, r⟩
theorem ds_append {i : Nat} {p apos cpos : Pos} (hx : PE X (.Name x p) (tVar i)) (ha : DO X e ta) (hbase : attributeBase (.Name x p) "append" X.env (eval (.Name x p) X.env) = eval (.Name x p) X.env := by rfl)
    (hfew : ((backTo cpos (starEach [e] X.env)).all (fun x => !x.1) && (backToKw cpos (keywordEach [] X.env)).all (fun x => x.1.isSome) && decide (([e] : List Expr).length + ([] : List Keyword).length + (if ([] : List Keyword).isEmpty then 0 else 1) < 30)) = true := by rfl)
    (hline : (apos.endLine == cpos.line) = true := by rfl) (hs : starEach [e] X.env = (false, eval e X.env) :: starEach [] X.env := by rfl) (hplain : (backTo cpos (starEach [] X.env)).any (·.1) = false := by rfl)
    (hsw : swapsWith (.Call (.Attribute (.Name x p) "append" apos) [e] [] cpos) none pos.line X.env = pure false := by rfl) :
    DS X (.Expr (.Call (.Attribute (.Name x p) "append" apos) [e] [] cpos) pos) (sAppend i ta) :=
  PS.imp (ps_expr (pe_bm PySem.F.plainAttrs_list PySem.F.slot_list_append PySem.F.type_list_append mt_append hx (pa_cons ha pa_nil hs) hbase hfew hline hs hplain) hsw) fun D σ H ⟨B, ρ, E, R, t, k⟩ => by
  unfold sAppend at t
  split at t
  · rename_i a0 ds0 h0
    obtain ⟨g1, g2, g3, g4⟩ := R.own i a0 _ h0
    obtain ⟨xs0, hx0, _⟩ := g3.lst_of
    refine ⟨_, g1, .inl ⟨rfl, xs0, SqL.of hx0⟩, B, ρ, _, R, t, fun o ρ1 v H1 t1 m1 R1 i1 => ?_⟩
    obtain ⟨d, ρ2, h2, is, R2, m2⟩ := i1.tk R1 t1
    split at h2
    · rename_i a1 ds hc
      obtain ⟨f1, f2, f3, f4⟩ := R2.own i a1 _ hc
      rw [g1] at f1
      cases f1
      obtain ⟨xs, hx1, all⟩ := f3.lst_of
      obtain ⟨R3, m3⟩ := R2.write (u := .lst (xs ++ [v])) hc (.lst (all.append (.cons is .nil)))
      exact ⟨a0, xs, v, rfl, rfl, hx1, by rw [all.length, sizeLine_eq]; exact h2.1, k.nx _ _ _ h2.2 ((m1.trans m2).trans m3) R3⟩
    · exact h2.elim
  · exact t.elim
def sExtend (i : Nat) (ta : DT) : DTS := fun E ρ => match ρ[i]? with
  | some (some (.own _ (.list _))) => ta ρ fun o ρ1 => o.tk ρ1 fun d ρ2 => match d with
    | .list es => match ρ2[i]? with
      | some (some (.own a (.list ds))) => ds.length + es.length ≤ 16777216 ∧ E.nx (ρ2.set i (some (.own a (.list (ds ++ es)))))
      | _ => False
    | _ => False
  | _ => False
theorem ds_extend {i : Nat} {p apos cpos : Pos} (hx : PE X (.Name x p) (tVar i)) (ha : DO X e ta) (hbase : attributeBase (.Name x p) "extend" X.env (eval (.Name x p) X.env) = eval (.Name x p) X.env := by rfl)
    (hfew : ((backTo cpos (starEach [e] X.env)).all (fun x => !x.1) && (backToKw cpos (keywordEach [] X.env)).all (fun x => x.1.isSome) && decide (([e] : List Expr).length + ([] : List Keyword).length + (if ([] : List Keyword).isEmpty then 0 else 1) < 30)) = true := by rfl)
    (hline : (apos.endLine == cpos.line) = true := by rfl) (hs : starEach [e] X.env = (false, eval e X.env) :: starEach [] X.env := by rfl) (hplain : (backTo cpos (starEach [] X.env)).any (·.1) = false := by rfl)
    (hsw : swapsWith (.Call (.Attribute (.Name x p) "extend" apos) [e] [] cpos) none pos.line X.env = pure false := by rfl) :
    DS X (.Expr (.Call (.Attribute (.Name x p) "extend" apos) [e] [] cpos) pos) (sExtend i ta) :=
  PS.imp (ps_expr (pe_bm PySem.F.plainAttrs_list PySem.F.slot_list_extend PySem.F.type_list_extend mt_extend hx (pa_cons ha pa_nil hs) hbase hfew hline hs hplain) hsw) fun D σ H ⟨B, ρ, E, R, t, k⟩ => by
  unfold sExtend at t
  split at t
  · rename_i a0 ds0 h0
    obtain ⟨g1, g2, g3, g4⟩ := R.own i a0 _ h0
    obtain ⟨xs0, hx0, _⟩ := g3.lst_of
    refine ⟨_, g1, .inl ⟨rfl, xs0, SqL.of hx0⟩, B, ρ, _, R, t, fun o ρ1 v H1 t1 m1 R1 i1 => ?_⟩
    obtain ⟨d, ρ2, h2, is, R2, m2⟩ := i1.tk R1 t1
    split at h2
    · rename_i es
      split at h2
      · rename_i a1 ds hc
        obtain ⟨f1, f2, f3, f4⟩ := R2.own i a1 _ hc
        rw [g1] at f1
        cases f1
        obtain ⟨xs, hx1, all⟩ := f3.lst_of
        obtain ⟨b1, zs, rfl, hb1, all2⟩ := is.lst'
        obtain ⟨R3, m3⟩ := R2.write (u := .lst (xs ++ zs)) hc (.lst (all.append all2))
        exact ⟨a0, b1, xs, zs, rfl, rfl, hx1, hb1, by rw [all.length, all2.length, sizeLine_eq]; exact h2.1, k.nx _ _ _ h2.2 ((m1.trans m2).trans m3) R3⟩
      · exact h2.elim
    · exact h2.elim
  · exact t.elim
/-- xs[i] = e -/
def sSetIx (i : Nat) (ti ta : DT) : DTS := fun E ρ => ta ρ fun o ρ1 => o.tk ρ1 fun d ρ2 => match ρ2[i]? with
  | some (some (.own _ _)) => ti ρ2 fun oi ρ3 => oi.rd ρ3 fun di => match di with
    | .int n => match ρ3[i]? with
      | some (some (.own a (.list ds))) => ∃ j, ixN ds.length n = some j ∧ E.nx (ρ3.set i (some (.own a (.list (ds.set j d)))))
      | _ => False
    | _ => False
  | _ => False
theorem ds_setIx {i : Nat} {ix : Expr} {ti : DT} {p spos : Pos} (hx : PE X (.Name x p) (tVar i)) (hi : DO X ix ti) (ha : DO X e ta) (hs : swapsWithSole [.Subscript (.Name x p) ix spos] e pos.line X.env = pure false := by rfl) (hw : swappedStores [.Subscript (.Name x p) ix spos] e X.env = pure none := by rfl)
    (h1 : (assignEach [.Subscript (.Name x p) ix spos] X.env).map (·.2) = [assign (.Subscript (.Name x p) ix spos) X.env] := by rfl)
    (hga : ∀ v, assign (.Subscript (.Name x p) ix spos) X.env v = (do
      let ov ← holding [v] (eval (.Name x p) X.env)
      let iv ← holding [v, ov] (eval ix X.env)
      standAt spos
      holding [v, ov, iv] (setItem ov iv v)
      release [v, ov, iv] []) := by intro _; rfl) :
    DS X (.Assign [.Subscript (.Name x p) ix spos] e pos) (sSetIx i ti ta) := PS.imp (ps_asg ha (pg_sub hx hi set_list hga) hs hw h1) fun D σ H ⟨B, ρ, E, R, t, k⟩ => by
  refine ⟨B, ρ, _, R, t, fun o ρ1 v H1 t1 m1 R1 i1 => ?_⟩
  obtain ⟨d, ρ2, h2, is, R2, m2⟩ := i1.tk R1 t1
  split at h2
  · rename_i a0 d0 h0
    obtain ⟨g1, g2, g3, g4⟩ := R2.own i a0 _ h0
    refine ⟨_, g1, B, ρ2, _, R2, h2, fun oi ρ3 w H3 t3 m3 R3 i3 => ?_⟩
    obtain ⟨di, h4, r4⟩ := i3.rd R3 t3
    split at h4
    · rename_i n
      split at h4
      · rename_i a1 ds hc
        obtain ⟨j, hj, nx⟩ := h4
        obtain ⟨f1, f2, f3, f4⟩ := R3.own i a1 _ hc
        rw [g1] at f1
        cases f1
        obtain ⟨xs, hx1, all⟩ := f3.lst_of
        obtain ⟨R4, m4⟩ := R3.write (u := .lst (xs.set j v)) hc (.lst (IsAll.set (is.mono m3) j all))
        exact ⟨a0, xs, n, j, rfl, r4.int, hx1, by rw [all.length]; exact hj, k.nx _ _ _ nx (((m1.trans m2).trans m3).trans m4) R4⟩
      · exact h4.elim
    · exact h4.elim
  · exact h2.elim
/-- xs.pop() -/
def dPop (i : Nat) : DT := fun ρ q => match ρ[i]? with
  | some (some (.own a (.list ds))) => ∃ d, ds[ds.length - 1]? = some d ∧ q (.vl d) (ρ.set i (some (.own a (.list ds.dropLast))))
  | _ => False
theorem do_pop {i : Nat} {p apos : Pos} (hx : PE X (.Name x p) (tVar i)) (hbase : attributeBase (.Name x p) "pop" X.env (eval (.Name x p) X.env) = eval (.Name x p) X.env := by rfl) (hline : (apos.endLine == pos.line) = true := by rfl) :
    DO X (.Call (.Attribute (.Name x p) "pop" apos) [] [] pos) (dPop i) := PE.imp (pe_bm0 PySem.F.plainAttrs_list PySem.F.slot_list_pop PySem.F.type_list_pop mt_pop hx hbase hline) fun σ H Q ⟨B, ρ, q, R, t, k⟩ => by
  unfold dPop at t
  split at t
  · rename_i a0 ds h0
    obtain ⟨d, hd, t⟩ := t
    obtain ⟨g1, g2, g3, g4⟩ := R.own i a0 _ h0
    obtain ⟨xs, hx0, all⟩ := g3.lst_of
    obtain ⟨v, hv, iv⟩ := all.get hd
    obtain ⟨R4, m4⟩ := R.write (u := .lst xs.dropLast) h0 (.lst all.dropLast)
    exact ⟨_, g1, .inl ⟨rfl, xs, SqL.of hx0⟩, a0, xs, v, rfl, rfl, hx0, by rw [all.length]; exact hv, k _ _ _ _ t m4 R4 (iv.mono m4)⟩
  · exact t.elim
end

/-! ### a def keeps its promise -/
/-- the names at the entry -/
def startD (m : Bool) (a : Addr) (n : Nat) (ds : List PyData) : DEnv :=
  (match m, ds with
    | true, d :: r => some (.own a d) :: r.map fun d => some (.val d)
    | _, ds => ds.map fun d => some (.val d)) ++ List.replicate (n - ds.length) none
/-- what is wanted at the end -/
def endsD (m : Bool) (a : Addr) (q : PyData → PyData → Prop) : DEnds where
  nx := fun ρ => match m with
    | true => ∃ e, ρ[0]? = some (some (.own a e)) ∧ q .none e
    | false => q .none .none
  rt := fun d ρ => match m with
    | true => ∃ e, ρ[0]? = some (some (.own a e)) ∧ q d e
    | false => q d .none
section
variable {P : Program} {w : World} {K : PySem.W.Frag} {mg : Str → Option Value} {base : Heap} {x qual : Str} {params : Arguments} {body : List Stmt} {scope : Scope} {f : Addr} {fd : FuncData}
theorem vals_get {O : Addr → Prop} {H : Hp} {vs : List V} {ds : List PyData} {n : Nat} (h : IsAll O H vs ds) {i : Nat} {c : Cell} (e : (ds.map (fun d => some (Cell.val d)) ++ List.replicate n none)[i]? = some (some c)) : ∃ d v, c = .val d ∧ vs[i]? = some v ∧ Is O H v d ∧ i < ds.length := by
  by_cases hi : i < ds.length
  · rw [List.getElem?_append_left (by rw [List.length_map]; exact hi), List.getElem?_map, List.getElem?_eq_getElem hi] at e
    cases e
    obtain ⟨v, h1, h2⟩ := h.get (List.getElem?_eq_getElem hi)
    exact ⟨_, v, rfl, h1, h2, hi⟩
  · rw [List.getElem?_append_right (by rw [List.length_map]; omega), List.getElem?_replicate] at e
    split at e <;> cases e
theorem start_get {N : List Str} {vs : List V} {i : Nat} {v : V} (h : vs[i]? = some v) : (L2.start N vs)[i]? = some (some v) := by
  have hi : i < vs.length := (List.getElem?_eq_some_iff.mp h).1
  unfold L2.start
  rw [List.getElem?_append_left (by rw [List.length_map]; exact hi), List.getElem?_map, h]
  rfl
/-- a promise, told at the entry -/
theorem spD_up {N ps : List Str} {n : Nat} {m : Bool} {F : DF} {t : DTS} (S : FnScope N ps scope) (hn : ps.length = n)
    (hF : ∀ ds q a, ds.length = n → F ds q → t (endsD m a q) (startD m a N.length ds)) {vs : List V} {H : Hp} {Q : VK} {E : XK} (h : spD m n F vs H Q E) : upS t { nx := fun _ H' => Q .non H', rt := Q } (L2.start N vs) H := by
  have hpl : ps.length ≤ N.length := by
    have := congrArg List.length S.pre
    rw [List.length_take] at this
    omega
  obtain ⟨hl, O, ds, q, trk, hq, h⟩ := h
  cases m with
  | false =>
    rw [if_neg Bool.false_ne_true] at h
    obtain ⟨all, hQ⟩ := h
    have dl : ds.length = n := by rw [← all.length, hl]
    have e0 : startD false 0 N.length ds = ds.map (fun d => some (Cell.val d)) ++ List.replicate (N.length - ds.length) none := by cases ds <;> rfl
    have t0 := hF ds q 0 dl hq
    rw [e0] at t0
    have nown : ∀ b, ¬ owns (ds.map (fun d => some (Cell.val d)) ++ List.replicate (N.length - ds.length) none) b := fun b ⟨i, c, e, z⟩ => by
      obtain ⟨d, v, rfl, _⟩ := vals_get all e
      exact z
    refine ⟨⟨O, H, fun _ => False⟩, _, endsD false 0 q, ⟨?_, trk, fun i c e => ?_, fun i c b e z => ?_, fun i j c c' b e e' z z' => ?_, fun b o e _ => e⟩, t0, ?_⟩
    · rw [List.length_append, List.length_map, List.length_replicate]
      unfold L2.start
      rw [List.length_append, List.length_map, List.length_replicate, hl, dl]
    · obtain ⟨d, v, rfl, h1, h2, _⟩ := vals_get all e
      exact ⟨v, start_get h1, h2.mono (Adv.sub fun b z => z.elim id fun z => (nown b z).elim)⟩
    · exact (nown b ⟨i, c, e, z⟩).elim
    · exact (nown b ⟨i, c, e, z⟩).elim
    · refine ⟨fun ρ' σ' H' z ad R' => ?_, fun d ρ' σ' v H' z ad R' is => ?_, fun _ _ _ z => z.elim, fun _ _ _ z => z.elim⟩
      · exact hQ _ _ _ _ z (fun b o e => R'.keep b o e id) .non
      · exact hQ _ _ _ _ z (fun b o e => R'.keep b o e id) (is.mono (Adv.sub fun b z => .inl z))
  | true =>
    rw [if_pos rfl] at h
    obtain ⟨a, ws, d0, es, rfl, rfl, oa, top, all, hQ⟩ := h
    have dl : (d0 :: es).length = n := by rw [← hl, List.length_cons, List.length_cons, all.length]
    have t0 := hF (d0 :: es) q a dl hq
    have e0 : startD true a N.length (d0 :: es) = some (Cell.own a d0) :: (es.map (fun d => some (Cell.val d)) ++ List.replicate (N.length - (d0 :: es).length) none) := rfl
    rw [e0] at t0
    have cell : ∀ (i : Nat) (c : Cell), (some (Cell.own a d0) :: (es.map (fun d => some (Cell.val d)) ++ List.replicate (N.length - (d0 :: es).length) none))[i]? = some (some c) → (i = 0 ∧ c = .own a d0) ∨ ∃ d v, c = .val d ∧ (V.ref a :: ws)[i]? = some v ∧ Is O H v d := fun i c e => by
      cases i with
      | zero => cases e; exact .inl ⟨rfl, rfl⟩
      | succ i =>
        obtain ⟨d, v, h1, h2, h3, _⟩ := vals_get all (show _ = some (some c) from e)
        exact .inr ⟨d, v, h1, h2, h3⟩
    have ow : ∀ b, OW ⟨fun b => O b ∧ b ≠ a, H, (· = a)⟩ (some (Cell.own a d0) :: (es.map (fun d => some (Cell.val d)) ++ List.replicate (N.length - (d0 :: es).length) none)) b → O b := fun b z => by
      rcases z with z | ⟨i, c, e, z⟩
      · exact z.1
      · rcases cell i c e with ⟨_, rfl⟩ | ⟨d, v, rfl, _⟩
        · cases (show b = a from z); exact oa
        · exact z.elim
    have mo : Adv O (OW ⟨fun b => O b ∧ b ≠ a, H, (· = a)⟩ (some (Cell.own a d0) :: (es.map (fun d => some (Cell.val d)) ++ List.replicate (N.length - (d0 :: es).length) none))) H H := Adv.sub ow
    refine ⟨⟨fun b => O b ∧ b ≠ a, H, (· = a)⟩, _, endsD true a q, ⟨?_, fun b z => trk b z.1, fun i c e => ?_, fun i c b e z => ?_, fun i j c c' b e e' z z' => ?_, fun b o e _ => e⟩, t0, ?_⟩
    · rw [List.length_cons, List.length_append, List.length_map, List.length_replicate]
      unfold L2.start
      rw [List.length_append, List.length_map, List.length_replicate, hl]
      have := dl
      rw [List.length_cons] at this ⊢
      omega
    · rcases cell i c e with ⟨rfl, rfl⟩ | ⟨d, v, rfl, h1, h2⟩
      · exact ⟨.ref a, start_get rfl, rfl, top.mono mo rfl⟩
      · exact ⟨v, start_get h1, h2.mono mo⟩
    · rcases cell i c e with ⟨rfl, rfl⟩ | ⟨d, v, rfl, h1, h2⟩
      · cases (show b = a from z)
        exact ⟨trk a oa, fun z => z.2 rfl, .inl rfl⟩
      · exact z.elim
    · rcases cell i c e with ⟨rfl, rfl⟩ | ⟨d, v, rfl, h1, h2⟩
      · rcases cell j c' e' with ⟨rfl, rfl⟩ | ⟨d, v, rfl, h1, h2⟩
        · rfl
        · exact z'.elim
      · exact z.elim
    · have fin : ∀ {d e : PyData} {ρ' : DEnv} {σ' : L2.St} {v : V} {H' : Hp}, ρ'[0]? = some (some (.own a e)) → q d e → Rep ⟨fun b => O b ∧ b ≠ a, H, (· = a)⟩ ρ' σ' H' → Is (OW ⟨fun b => O b ∧ b ≠ a, H, (· = a)⟩ ρ') H' v d → Q v H' := by
        intro d e ρ' σ' v H' e1 hq R' is
        obtain ⟨g1, g2, g3, g4⟩ := R'.own 0 a e e1
        have m : Adv (OW ⟨fun b => O b ∧ b ≠ a, H, (· = a)⟩ ρ') O H' H' := Adv.sub fun b z => by
          by_cases h : b = a
          · subst h; exact .inr ⟨0, _, e1, rfl⟩
          · exact .inl ⟨z, h⟩
        exact hQ _ _ _ _ hq (fun b o e n => R'.keep b o e n) (g3.mono m rfl) (is.mono m)
      refine ⟨fun ρ' σ' H' z ad R' => ?_, fun d ρ' σ' v H' z ad R' is => ?_, fun _ _ _ z => z.elim, fun _ _ _ z => z.elim⟩
      · obtain ⟨e, h1, h2⟩ := z
        exact fin h1 h2 R' .non
      · obtain ⟨e, h1, h2⟩ := z
        exact fin h1 h2 R' is
theorem okD {N ps : List Str} {k n : Nat} {m : Bool} {F : DF} {t : DTS} (Fn : FunD K x qual params body scope [] [] f fd) (S : FnScope N ps scope) (hn : ps.length = n)
    (hb : ∀ (cdv : Value) (A : Around) (outer : List Env) (s : Shared) (H : Hp) (E : XK), Room k (A.deeper (envOfC qual scope s.heap.objs.size f cdv)) → DSs (cxOf CX0 P w K mg base N qual scope f cdv A outer s H E).nox body t)
    (hF : ∀ ds q a, ds.length = n → F ds q → t (endsD m a q) (startD m a N.length ds)) : FnOk P w K mg base CX0 (k + 1) f fd ps (spD m n F) := by
  exact Fn.ok S (fun vs H Q E h => h.1.trans hn.symm) fun cdv A outer s H vs Q E hr h => ⟨upS t, PSs.nox (hb cdv A outer s H E hr), spD_up S hn hF h⟩
end
end DL
namespace DL
open PySem PySem.Spec PyProof.Rows L2

/-! ### several names at once, new containers among the values -/
inductive FV where
  | vl (d : PyData)
  | fr (d : PyData)
abbrev DTAF := DEnv → (List FV → DEnv → Prop) → Prop
inductive FAll (O : Addr → Prop) (H : Hp) : List Addr → List V → List FV → Prop
  | nil : FAll O H [] [] []
  | vl {ps : List Addr} {v : V} {vs : List V} {d : PyData} {fs : List FV} : Is O H v d → FAll O H ps vs fs → FAll O H ps (v :: vs) (.vl d :: fs)
  | fr {p : Addr} {ps : List Addr} {vs : List V} {d : PyData} {fs : List FV} : Top O H p d → FAll O H ps vs fs → FAll O H (p :: ps) (.ref p :: vs) (.fr d :: fs)
abbrev Bs.these (B : Bs) (ps : List Addr) : Bs := B.more (· ∈ ps)
theorem FAll.mono {O O' : Addr → Prop} {H : Hp} {ps : List Addr} {vs : List V} {fs : List FV} (m : Adv O O' H H) (h : FAll O H ps vs fs) : FAll O' H ps vs fs := by
  induction h with
  | nil => exact .nil
  | vl i _ ih => exact .vl (i.mono m) ih
  | fr t _ ih => exact .fr (t.mono m rfl) ih
def upAF (t : DTAF) : TA := fun σ H Q => ∃ B ρ q, Rep B ρ σ H ∧ t ρ q ∧ ∀ fs ρ' vs ps H', q fs ρ' → ps.Nodup → (∀ p ∈ ps, ¬ B.O p ∧ (B.mu p ∨ B.H0 p = none)) → Adv (OW B ρ) (OW (B.these ps) ρ') H H' → Rep (B.these ps) ρ' σ H' → FAll (OW (B.these ps) ρ') H' ps vs fs → Q vs H'
abbrev DAF (X : Cx) (es : List Expr) (t : DTAF) : Prop := PA X es (upAF t)
theorem Bs.these_nil (B : Bs) : B.these [] = B := by
  cases B
  simp [Bs.more]
theorem Bs.these_cons (B : Bs) (p : Addr) (ps : List Addr) : (B.plus p).these ps = B.these (p :: ps) := by
  cases B
  simp only [Bs.more, Bs.mk.injEq, and_true, true_and]
  funext b
  simp [or_assoc]
theorem Bs.these_cons' (B : Bs) (p : Addr) (ps : List Addr) : (B.these ps).plus p = B.these (p :: ps) := by
  cases B
  simp only [Bs.more, Bs.mk.injEq, and_true, true_and]
  funext b
  simp only [List.mem_cons, eq_iff_iff]
  constructor
  · rintro ((h | h) | h)
    · exact .inl h
    · exact .inr (.inr h)
    · exact .inr (.inl h)
  · rintro (h | h | h)
    · exact .inl (.inl h)
    · exact .inr h
    · exact .inl (.inr h)
section
variable {X : Cx} {a b c e : Expr} {es : List Expr} {ta tb tc : DT} {t : DTAF} {tf : DTF} {pos : Pos} {x y z : Str}
def afNil : DTAF := fun ρ q => q [] ρ
def afV (ta : DT) (tr : DTAF) : DTAF := fun ρ q => ta ρ fun o ρ1 => o.tk ρ1 fun d ρ2 => tr ρ2 fun fs ρ3 => q (.vl d :: fs) ρ3
def afF (tf : DTF) (tr : DTAF) : DTAF := fun ρ q => tf ρ fun d ρ1 => tr ρ1 fun fs ρ2 => q (.fr d :: fs) ρ2
theorem daf_nil : DAF X [] afNil := PA.imp pa_nil fun σ H Q ⟨B, ρ, q, R, t, k⟩ => k _ _ _ [] _ t .nil (fun _ h => by cases h) (by rw [B.these_nil]; exact .refl) (by rw [B.these_nil]; exact R) .nil
theorem daf_v (ha : DO X e ta) (hr : DAF X es t) (hs : starEach (e :: es) X.env = (false, eval e X.env) :: starEach es X.env := by rfl) : DAF X (e :: es) (afV ta t) := PA.imp (pa_cons ha hr hs) fun σ H Q ⟨B, ρ, q, R, t, k⟩ => by
  refine ⟨B, ρ, _, R, t, fun o ρ1 v1 H1 t1 m1 R1 i1 => ?_⟩
  obtain ⟨d, ρ2, h2, is, R2, m2⟩ := i1.tk R1 t1
  refine ⟨B, ρ2, _, R2, h2, fun fs ρ3 vs ps H3 t3 nd hp m3 R3 all => ?_⟩
  exact k _ _ _ _ _ t3 nd hp ((m1.trans m2).trans m3) R3 (.vl (is.mono m3) all)
theorem daf_f (ha : DFr X e tf) (hr : DAF X es t) (hs : starEach (e :: es) X.env = (false, eval e X.env) :: starEach es X.env := by rfl) : DAF X (e :: es) (afF tf t) := PA.imp (pa_cons ha hr hs) fun σ H Q ⟨B, ρ, q, R, t, k⟩ => by
  refine ⟨B, ρ, _, R, t, fun p d ρ1 H1 t1 n1 n2 m1 R1 tp => ?_⟩
  refine ⟨(B.plus p).re ρ1 H1, ρ1, _, R1.re, t1, fun fs ρ2 vs ps H2 t2 nd hp m2 R2 all => ?_⟩
  have np : ¬ owns ρ1 p := fun ⟨i, c, h, z⟩ => (R1.adr i c p h z).2.1 (.inr rfl)
  obtain ⟨u, hu, hh⟩ := id tp
  have ep : H2 p = H1 p := (R2.keep p u hu np).trans hu.symm
  have R2' : Rep (B.these (p :: ps)) ρ2 σ H2 := by
    rw [← B.these_cons]
    exact R1.unre R2
  have m2' : Adv (OW (B.plus p) ρ1) (OW (B.these (p :: ps)) ρ2) H1 H2 := by
    rw [← B.these_cons]
    exact m2
  have all' : FAll (OW (B.these (p :: ps)) ρ2) H2 ps vs fs := by
    rw [← B.these_cons]
    exact all
  refine k _ _ _ _ _ t2 (List.nodup_cons.mpr ⟨fun z => (hp p z).1 (.inr rfl), nd⟩) (fun q hq => ?_) (m1.trans m2') R2' (.fr (tp.mono m2' ep) all')
  rcases List.mem_cons.mp hq with z | z
  · rw [z]; exact ⟨n1, n2⟩
  · obtain ⟨h1, h2⟩ := hp q z
    exact ⟨fun y => h1 (.inl y), R1.unre_mu h2⟩
/-- a name is given it -/
def FV.put (i : Nat) (f : FV) (ρ : DEnv) (k : DEnv → Prop) : Prop := match f with
  | .vl d => k (ρ.set i (some (.val d)))
  | .fr d => ∀ p, k (ρ.set i (some (.own p d)))
theorem FAll.put {B : Bs} {ρ : DEnv} {σ : L2.St} {H : Hp} {ps : List Addr} {v : V} {vs : List V} {f : FV} {fs : List FV} {i : Nat} {k : DEnv → Prop} (R : Rep (B.these ps) ρ σ H) (nd : ps.Nodup) (hp : ∀ p ∈ ps, ¬ B.O p ∧ (B.mu p ∨ B.H0 p = none))
    (all : FAll (OW (B.these ps) ρ) H ps (v :: vs) (f :: fs)) (h : f.put i ρ k) : ∃ ps' ρ', k ρ' ∧ Rep (B.these ps') ρ' (σ.set i (some v)) H ∧ Adv (OW (B.these ps) ρ) (OW (B.these ps') ρ') H H ∧ ps'.Nodup ∧ (∀ p ∈ ps', ¬ B.O p ∧ (B.mu p ∨ B.H0 p = none)) ∧ FAll (OW (B.these ps') ρ') H ps' vs fs := by
  cases all with
  | vl is all =>
    obtain ⟨R2, m⟩ := R.setVal (i := i) is
    exact ⟨ps, _, h, R2, m, nd, hp, all.mono m⟩
  | @fr p ps' _ d _ top all =>
    have h' := h p
    obtain ⟨n1, nd'⟩ := List.nodup_cons.mp nd
    rw [← B.these_cons'] at R top all ⊢
    obtain ⟨R2, m⟩ := R.adopt (i := i) top (fun z => z.elim (hp p (List.mem_cons_self ..)).1 n1) (hp p (List.mem_cons_self ..)).2
    exact ⟨ps', _, h', R2, m, nd', fun q hq => hp q (List.mem_cons_of_mem _ hq), all.mono m⟩
def sPar (i j : Nat) (t : DTAF) : DTS := fun E ρ => t ρ fun fs ρ1 => match fs with
  | [f, g] => f.put i ρ1 fun ρ2 => g.put j ρ2 E.nx
  | _ => False
def sPar3 (i j l : Nat) (t : DTAF) : DTS := fun E ρ => t ρ fun fs ρ1 => match fs with
  | [f, g, h] => f.put i ρ1 fun ρ2 => g.put j ρ2 fun ρ3 => h.put l ρ3 E.nx
  | _ => False
theorem Rep.these_nil {B : Bs} {ρ : DEnv} {σ : L2.St} {H : Hp} {ps : List Addr} (R : Rep (B.these ps) ρ σ H) (h : ps = []) : Rep B ρ σ H := by
  subst h
  rw [B.these_nil] at R
  exact R
theorem ds_par {i j : Nat} {px py pt : Pos} {kt k2 pt2} (hc : X.calm = true) (hN : X.N.Nodup) (hi : X.N[i]? = some x) (hj : X.N[j]? = some y) (hij : i ≠ j)
    (hx : X.env.scope.names.lookup x = some .local) (hy : X.env.scope.names.lookup y = some .local) (ha : DAF X [a, b] t)
    (hw : swappedStores [.Tuple [.Name x px, .Name y py] kt pt] (.Tuple [a, b] k2 pt2) X.env = pure (some [x, y]))
    (hs : swapsWithSole [.Tuple [.Name x px, .Name y py] kt pt] (.Tuple [a, b] k2 pt2) pos.line X.env = pure false := by rfl) :
    DS X (.Assign [.Tuple [.Name x px, .Name y py] kt pt] (.Tuple [a, b] k2 pt2) pos) (sPar i j t) := PS.imp (ps_par hc hN hi hj hij hx hy ha hw hs) fun D σ H ⟨B, ρ, E, R, t, k⟩ => by
  refine ⟨B, ρ, _, R, t, fun fs ρ1 vs ps H1 t1 nd hp m1 R1 all => ?_⟩
  split at t1
  · rename_i f g
    obtain ⟨v, vs1, rfl⟩ : ∃ v r, vs = v :: r := by cases all <;> exact ⟨_, _, rfl⟩
    obtain ⟨ps2, ρ2, t2, R2, m2, nd2, hp2, all2⟩ := FAll.put R1 nd hp all t1
    obtain ⟨w, vs2, rfl⟩ : ∃ v r, vs1 = v :: r := by cases all2 <;> exact ⟨_, _, rfl⟩
    obtain ⟨ps3, ρ3, t3, R3, m3, nd3, hp3, all3⟩ := FAll.put R2 nd2 hp2 all2 t2
    cases all3
    rw [B.these_nil] at R3 m3
    exact ⟨v, w, rfl, k.nx _ _ _ t3 ((m1.trans m2).trans m3) R3⟩
  · exact t1.elim
theorem ds_par3 {i j l : Nat} {px py pz pt : Pos} {kt k2 pt2} (hc : X.calm = true) (hN : X.N.Nodup) (hi : X.N[i]? = some x) (hj : X.N[j]? = some y) (hl : X.N[l]? = some z) (hij : i ≠ j) (hil : i ≠ l) (hjl : j ≠ l)
    (hx : X.env.scope.names.lookup x = some .local) (hy : X.env.scope.names.lookup y = some .local) (hz : X.env.scope.names.lookup z = some .local) (ha : DAF X [a, b, c] t)
    (hw : swappedStores [.Tuple [.Name x px, .Name y py, .Name z pz] kt pt] (.Tuple [a, b, c] k2 pt2) X.env = pure (some [x, y, z]))
    (hs : swapsWithSole [.Tuple [.Name x px, .Name y py, .Name z pz] kt pt] (.Tuple [a, b, c] k2 pt2) pos.line X.env = pure false := by rfl) :
    DS X (.Assign [.Tuple [.Name x px, .Name y py, .Name z pz] kt pt] (.Tuple [a, b, c] k2 pt2) pos) (sPar3 i j l t) := PS.imp (ps_par3 hc hN hi hj hl hij hil hjl hx hy hz ha hw hs) fun D σ H ⟨B, ρ, E, R, t, k⟩ => by
  refine ⟨B, ρ, _, R, t, fun fs ρ1 vs ps H1 t1 nd hp m1 R1 all => ?_⟩
  split at t1
  · rename_i f g h
    obtain ⟨v, vs1, rfl⟩ : ∃ v r, vs = v :: r := by cases all <;> exact ⟨_, _, rfl⟩
    obtain ⟨ps2, ρ2, t2, R2, m2, nd2, hp2, all2⟩ := FAll.put R1 nd hp all t1
    obtain ⟨w, vs2, rfl⟩ : ∃ v r, vs1 = v :: r := by cases all2 <;> exact ⟨_, _, rfl⟩
    obtain ⟨ps3, ρ3, t3, R3, m3, nd3, hp3, all3⟩ := FAll.put R2 nd2 hp2 all2 t2
    obtain ⟨u, vs3, rfl⟩ : ∃ v r, vs2 = v :: r := by cases all3 <;> exact ⟨_, _, rfl⟩
    obtain ⟨ps4, ρ4, t4, R4, m4, nd4, hp4, all4⟩ := FAll.put R3 nd3 hp3 all3 t3
    cases all4
    rw [B.these_nil] at R4 m4
    exact ⟨v, w, u, rfl, k.nx _ _ _ t4 (((m1.trans m2).trans m3).trans m4) R4⟩
  · exact t1.elim

/-! ### dicts -/
def dLook (es : List (PyData × PyData)) (k : PyData → Bool) : Option PyData := (es.find? fun e => k e.1).map (·.2)
/-- a key that may stand in a dict of ints and texts -/
def keyB : PyData → PyData → Bool
  | .int i, .int j => i == j
  | .str x, .str y => decide (x = y)
  | _, _ => false
def isKey : PyData → Bool
  | .int _ => true
  | .str _ => true
  | _ => false
theorem key_of_is {O : Addr → Prop} {H : Hp} {v : V} {d : PyData} (h : RdB O H v d) (k : isKey d = true) : ∃ q, v = kV q ∧ d = kD q := by
  cases d with
  | int i => exact ⟨.inl i, h.int, rfl⟩
  | str x => exact ⟨.inr x, h.str, rfl⟩
  | _ => cases k
theorem keyB_kD (a b : Key) : keyB (kD a) (kD b) = decide (a = b) := by
  cases a with
  | inl i =>
    cases b with
    | inl j =>
      show (i == j) = decide ((Sum.inl i : Key) = Sum.inl j)
      exact (key_ll i j).symm
    | inr y => exact (key_lr i y).symm
  | inr x =>
    cases b with
    | inl j => exact (key_rl x j).symm
    | inr y =>
      show decide (x = y) = decide ((Sum.inr x : Key) = Sum.inr y)
      exact (key_rr x y).symm
/-- what stands under a key -/
def dGetD (es : List (PyData × PyData)) (k : PyData) : Option PyData := dLook es fun e => keyB e k
def dPutD (es : List (PyData × PyData)) (k d : PyData) : List (PyData × PyData) :=
  if (es.any fun e => keyB e.1 k) = true then es.map (fun e => if keyB e.1 k = true then (e.1, d) else e) else es ++ [(k, d)]
theorem IsK.look {O : Addr → Prop} {H : Hp} {kvs : List (Key × V)} {es : List (PyData × PyData)} (h : IsK O H kvs es) (q : Key) :
    (∃ v d, valV kvs q = some v ∧ dGetD es (kD q) = some d ∧ Is O H v d) ∨ (valV kvs q = none ∧ dGetD es (kD q) = none) := by
  induction kvs generalizing es with
  | nil => cases h; exact .inr ⟨rfl, rfl⟩
  | cons p r ih =>
    cases h with
    | @consK k v _ d ds i t =>
      by_cases e : k = q
      · refine .inl ⟨v, d, valV_pos (p := (k, v)) e, ?_, i⟩
        show ((List.find? (fun e => keyB e.1 (kD q)) ((kD k, d) :: ds)).map (·.2)) = _
        rw [List.find?_cons_of_pos (by show keyB (kD k) (kD q) = true; rw [keyB_kD]; exact decide_eq_true e)]
        rfl
      · have e1 : valV ((k, v) :: r) q = valV r q := valV_neg (p := (k, v)) e
        have e2 : dGetD ((kD k, d) :: ds) (kD q) = dGetD ds (kD q) := by
          show ((List.find? (fun e => keyB e.1 (kD q)) ((kD k, d) :: ds)).map (·.2)) = _
          rw [List.find?_cons_of_neg (by show ¬ keyB (kD k) (kD q) = true; rw [keyB_kD]; simpa using e)]
          rfl
        rw [e1, e2]
        exact ih t
theorem IsK.any {O : Addr → Prop} {H : Hp} {q : Key} : ∀ {kvs : List (Key × V)} {es : List (PyData × PyData)}, IsK O H kvs es → (kvs.any fun kv => decide (kv.1 = q)) = es.any fun e => keyB e.1 (kD q)
  | _, _, .nilK => rfl
  | _, _, .consK i t => by
    rw [List.any_cons, List.any_cons, keyB_kD, IsK.any t]
theorem IsK.map {O : Addr → Prop} {H : Hp} {q : Key} {v : V} {d : PyData} (h : Is O H v d) : ∀ {kvs : List (Key × V)} {es : List (PyData × PyData)}, IsK O H kvs es →
    IsK O H (kvs.map fun kv => if kv.1 = q then (kv.1, v) else kv) (es.map fun e => if keyB e.1 (kD q) = true then (e.1, d) else e)
  | _, _, .nilK => .nilK
  | _, _, .consK (k := k) i t => by
    rw [List.map_cons, List.map_cons]
    by_cases e : k = q
    · rw [if_pos e, if_pos (by show keyB (kD k) (kD q) = true; rw [keyB_kD]; exact decide_eq_true e)]
      exact .consK h (IsK.map h t)
    · rw [if_neg e, if_neg (by show ¬ keyB (kD k) (kD q) = true; rw [keyB_kD]; simpa using e)]
      exact .consK i (IsK.map h t)
theorem IsK.append {O : Addr → Prop} {H : Hp} : ∀ {xs ys : List (Key × V)} {ds es : List (PyData × PyData)}, IsK O H xs ds → IsK O H ys es → IsK O H (xs ++ ys) (ds ++ es)
  | _, _, _, _, .nilK, s => s
  | _, _, _, _, .consK r t, s => .consK r (IsK.append t s)
theorem IsK.put {O : Addr → Prop} {H : Hp} {kvs : List (Key × V)} {es : List (PyData × PyData)} (h : IsK O H kvs es) (q : Key) {v : V} {d : PyData} (i : Is O H v d) : IsK O H (putK kvs q v) (dPutD es (kD q) d) := by
  unfold putK dPutD
  rw [h.any (q := q)]
  split
  · exact h.map i
  · exact h.append (.consK i .nilK)
theorem IsK.length {O : Addr → Prop} {H : Hp} : ∀ {kvs : List (Key × V)} {es : List (PyData × PyData)}, IsK O H kvs es → kvs.length = es.length
  | _, _, .nilK => rfl
  | _, _, .consK _ t => congrArg Nat.succ (IsK.length t)
end
end DL
namespace DL
open PySem PySem.Spec PyProof.Rows L2
section
variable {O : Addr → Prop} {H : Hp} {v : V}
/-- a dict of ints and texts: not one whose keys are tuples -/
def kDict : List (PyData × PyData) → Bool
  | (.none, _) :: _ => false
  | _ => true
theorem no_none {k : Key} : kD k ≠ .none := by cases k <;> intro e <;> cases e
theorem IsK.kd {kvs : List (Key × V)} {es : List (PyData × PyData)} (h : IsK O H kvs es) : kDict es = true := by
  cases h with
  | nilK => rfl
  | consK i t =>
    rename_i k _ _ _ _
    cases k <;> rfl
theorem RdB.dic {es : List (PyData × PyData)} (h : RdB O H v (.dict es)) (kd : kDict es = true) : ∃ a kvs, v = .ref a ∧ Rd H a (.dK kvs) ∧ IsK O H kvs es := by
  rcases h with h | ⟨a, rfl, u, e, h⟩
  · cases h with
    | dK n r t => exact ⟨_, _, rfl, r, t⟩
    | dT n r t => cases kd
  · cases h with
    | dK t => exact ⟨_, _, rfl, .inl e, t⟩
    | dT t => cases kd
theorem Top.dic {a : Addr} {es : List (PyData × PyData)} (h : Top O H a (.dict es)) (kd : kDict es = true) : ∃ kvs, H a = some (.dK kvs) ∧ IsK O H kvs es := by
  obtain ⟨u, e, h⟩ := h
  cases h with
  | dK t => exact ⟨_, e, t⟩
  | dT t => cases kd
end
section
variable {X : Cx} {a b c e i : Expr} {es : List Expr} {ta tb tc tk tv : DT} {t : DTA} {pos : Pos} {x : Str}
def gDGet : D2 := fun d e q => match d with
  | .dict es => kDict es = true ∧ isKey e = true ∧ ∃ r, dGetD es e = some r ∧ q r
  | _ => False
theorem dget_of {O : Addr → Prop} {H : Hp} {y : V} {a : Addr} {kvs : List (Key × V)} {es : List (PyData × PyData)} {e : PyData} (r : Rd H a (.dK kvs)) (t : IsK O H kvs es) (hy : RdB O H y e) (ke : isKey e = true) :
    (∃ v d, DGet H a y (some v) ∧ dGetD es e = some d ∧ Is O H v d) ∨ (DGet H a y none ∧ dGetD es e = none) := by
  obtain ⟨k, rfl, rfl⟩ := key_of_is hy ke
  rcases t.look k with ⟨v, d, h1, h2, h3⟩ | ⟨h1, h2⟩
  · exact .inl ⟨v, d, .inl ⟨kvs, k, r, rfl, h1.symm⟩, h2, h3⟩
  · exact .inr ⟨.inl ⟨kvs, k, r, rfl, h1.symm⟩, h2⟩
theorem fit_dget : Fit2 (fun x y H Q => ∃ a v, x = .ref a ∧ DGet H a y (some v) ∧ Q v H) gDGet := fun O H x y d e q Q _ hx hy h k => by
  unfold gDGet at h
  split at h
  · obtain ⟨kd, ke, r, h1, h2⟩ := h
    obtain ⟨a, kvs, rfl, r1, t1⟩ := hx.dic kd
    rcases dget_of r1 t1 hy ke with ⟨v, d, g1, g2, g3⟩ | ⟨g1, g2⟩
    · rw [h1] at g2
      cases g2
      exact ⟨a, v, rfl, g1, k _ _ _ h2 (Same.refl _) g3⟩
    · rw [h1] at g2; cases g2
  · exact h.elim
theorem do_dget (hu : X.A.units + 1 < cLine) (ha : DO X a ta) (hb : DO X b tb) (hs : NoSl b) : DO X (.Subscript a b pos) (d2 gDGet ta tb) := PE.imp (pe_dget hu ha hb hs) fun _ _ _ h => up2 fit_dget h
def gDIn (f : Bool → Bool) : D2 := fun e d q => match d with
  | .dict es => kDict es = true ∧ isKey e = true ∧ q (.bool (f (dGetD es e).isSome))
  | _ => False
theorem fit_din {f : Bool → Bool} : Fit2 (fun y x H Q => ∃ a o, x = .ref a ∧ DGet H a y o ∧ Q (.bl (f o.isSome)) H) (gDIn f) := fun O H y x e d q Q _ hy hx h k => by
  unfold gDIn at h
  split at h
  · obtain ⟨kd, ke, h2⟩ := h
    obtain ⟨a, kvs, rfl, r1, t1⟩ := hx.dic kd
    rcases dget_of r1 t1 hy ke with ⟨v, d, g1, g2, g3⟩ | ⟨g1, g2⟩
    · rw [g2] at h2
      exact ⟨a, some v, rfl, g1, k _ _ _ h2 (Same.refl _) (.bl _)⟩
    · rw [g2] at h2
      exact ⟨a, none, rfl, g1, k _ _ _ h2 (Same.refl _) (.bl _)⟩
  · exact h.elim
theorem do_din (hu : X.A.units + 1 < cLine) (ha : DO X a ta) (hb : DO X b tb) (hm : behindInMarks .In b = false := by rfl) : DO X (.Compare a [.In] [b] pos) (d2 (gDIn id) ta tb) := PE.imp (pe_cmp (pc_din hu ha hb) hm) fun _ _ _ h => up2 fit_din h
theorem do_dnotin (hu : X.A.units + 1 < cLine) (ha : DO X a ta) (hb : DO X b tb) (hm : behindInMarks .NotIn b = false := by rfl) : DO X (.Compare a [.NotIn] [b] pos) (d2 (gDIn (!·)) ta tb) := PE.imp (pe_cmp (pc_dnotin hu ha hb) hm) fun _ _ _ h => up2 fit_din h
theorem dp_din (hu : X.A.units + 1 < cLine) (ha : DO X a ta) (hb : DO X b tb) (hm : behindInMarks .In b = false := by rfl) : DP X (.Compare a [.In] [b] pos) (dB (d2 (gDIn id) ta tb)) := PT.imp (pt_cmp (pc_din hu ha hb) hm) fun _ _ _ h => up2 fit_din (upB h)
theorem dp_dnotin (hu : X.A.units + 1 < cLine) (ha : DO X a ta) (hb : DO X b tb) (hm : behindInMarks .NotIn b = false := by rfl) : DP X (.Compare a [.NotIn] [b] pos) (dB (d2 (gDIn (!·)) ta tb)) := PT.imp (pt_cmp (pc_dnotin hu ha hb) hm) fun _ _ _ h => up2 fit_din (upB h)
/-- d[k] = v -/
def sDPut (i : Nat) (tk tv : DT) : DTS := fun E ρ => tv ρ fun o ρ1 => o.tk ρ1 fun d ρ2 => match ρ2[i]? with
  | some (some (.own _ _)) => tk ρ2 fun ok ρ3 => ok.rd ρ3 fun e => match ρ3[i]? with
    | some (some (.own a (.dict es))) => kDict es = true ∧ isKey e = true ∧ es.length < 16777216 ∧ E.nx (ρ3.set i (some (.own a (.dict (dPutD es e d)))))
    | _ => False
  | _ => False
theorem ds_dput {j : Nat} {p pos' : Pos} (hu : X.A.units + 1 < cLine) (hx : PE X (.Name x p) (tVar j)) (hi : DO X i tk) (hv : DO X e tv) (hs : swapsWith e (some (.Subscript (.Name x p) i pos')) pos.line X.env = pure false := by rfl) :
    DS X (.Assign [.Subscript (.Name x p) i pos'] e pos) (sDPut j tk tv) := PS.imp (ps_dput hu hx hi hv hs) fun D σ H ⟨B, ρ, E, R, t, k⟩ => by
  refine ⟨B, ρ, _, R, t, fun o ρ1 v H1 t1 m1 R1 i1 => ?_⟩
  obtain ⟨d, ρ2, h2, is, R2, m2⟩ := i1.tk R1 t1
  split at h2
  · rename_i a0 d0 h0
    obtain ⟨g1, g2, g3, g4⟩ := R2.own j a0 _ h0
    refine ⟨_, g1, B, ρ2, _, R2, h2, fun ok ρ3 w H3 t3 m3 R3 i3 => ?_⟩
    obtain ⟨ek, h4, r4⟩ := i3.rd R3 t3
    split at h4
    · rename_i a1 es hc
      obtain ⟨kd, ke, hl, nx⟩ := h4
      obtain ⟨f1, f2, f3, f4⟩ := R3.own j a1 _ hc
      rw [g1] at f1
      cases f1
      obtain ⟨kvs, hk, all⟩ := f3.dic kd
      obtain ⟨q, rfl, rfl⟩ := key_of_is r4 ke
      obtain ⟨R4, m4⟩ := R3.write (u := .dK (putK kvs q v)) hc (.dK (all.put q (is.mono m3)))
      refine ⟨a0, _, rfl, DPut.k hk (by rw [all.length, sizeLine_eq]; exact hl), k.nx _ _ _ nx (((m1.trans m2).trans m3).trans m4) R4⟩
    · exact h4.elim
  · exact h2.elim
/-- {}, {k: v} -/
def fD0 : DTF := fun ρ q => q (.dict []) ρ
theorem dfr_d0 : DFr X (.Dict [] [] pos) fD0 := PE.imp pe_dnewK fun σ H Q ⟨B, ρ, q, R, t, k⟩ => fun p hp => by
  obtain ⟨R3, tp, m3⟩ := R.fresh hp (.dK .nilK)
  obtain ⟨e1, e2⟩ := R.entry hp
  exact k _ _ _ _ t e1 e2 m3 R3 tp
/-- one pair -/
def fD1 (tk tv : DT) : DTF := fun ρ q => tk ρ fun ok ρ1 => tv ρ1 fun ov ρ2 => ok.rd ρ2 fun e => ov.tk ρ2 fun d ρ3 => isKey e = true ∧ q (.dict [(e, d)]) ρ3
theorem dfr_d1 (hk : DO X i tk) (hv : DO X e tv) : DFr X (.Dict [some i] [e] pos) (fD1 tk tv) := PE.imp (pe_disp (pps_cons hk hv pps_nil) rfl rfl (fun z => by cases z) (by show 1 ≤ 15; decide)) fun σ H Q ⟨B, ρ, q, R, t, k⟩ => fun p hp => by
  obtain ⟨R1, tp, m1⟩ := R.fresh hp (u := .dK []) (.dK .nilK)
  obtain ⟨e1, e2⟩ := R.entry hp
  refine ⟨(B.plus p).re ρ (upd H p (.dK [])), ρ, _, R1.re, t, fun ok ρ1 v1 H1 t1 m2 R2 i1 => ⟨_, ρ1, _, R2, t1, fun ov ρ2 v2 H2 t2 m3 R3 i2 => ?_⟩⟩
  obtain ⟨ek, t3, r3⟩ := (i1.adv m3).rd R3 t2
  obtain ⟨d, ρ3, ⟨ke, t4⟩, is, R4, m4⟩ := i2.tk R3 t3
  have np : ¬ owns ρ p := fun ⟨i, c, h, z⟩ => (R1.adr i c p h z).2.1 (.inr rfl)
  have hp2 : H2 p = some (.dK []) := R4.keep p _ upd_same np
  obtain ⟨qk, rfl, rfl⟩ := key_of_is r3 ke
  have R5 : Rep (B.plus p) ρ3 σ H2 := R1.unre R4
  obtain ⟨R6, m6⟩ := R5.writeO (p := p) (u := .dK (mergeK [] [(qk, v2)])) (.inr rfl) e2 rfl
  refine ⟨hp2, [(qk, v2)], rfl, by show 1 ≤ 15; decide, ?_⟩
  have mm : Adv (OW (B.plus p) ρ) (OW (B.plus p) ρ3) (upd H p (.dK [])) H2 := (m2.trans m3).trans m4
  exact k _ _ _ _ t4 e1 e2 ((m1.trans mm).trans m6) R6 ⟨_, upd_same, .dK (.consK (Is.mono m6 is) .nilK)⟩

/-! ### enumerate, unpacking a list, powers, a sign's place -/
def iEnumD (ta : DT) : DTI := fun ρ q => ta ρ fun o ρ1 => o.tk ρ1 fun d ρ2 => match d with
  | .list ds => q ((List.range ds.length).zipWith (fun k d => .tuple [.int (k : Nat), d]) ds) ρ2
  | _ => False
theorem zw_get {ds : List PyData} {i : Nat} {f : Nat → PyData → PyData} {d : PyData} (h : ((List.range ds.length).zipWith f ds)[i]? = some d) : ∃ e, ds[i]? = some e ∧ d = f i e := by
  rw [List.getElem?_zipWith] at h
  by_cases hi : i < ds.length
  · rw [List.getElem?_range hi, List.getElem?_eq_getElem hi] at h
    cases h
    exact ⟨_, List.getElem?_eq_getElem hi, rfl⟩
  · rw [List.getElem?_eq_none (by rw [List.length_range]; omega)] at h
    cases h
theorem di_enum {p tpos : Pos} {elts : List Expr} {kk : Nat} (hg : Gl X "enumerate") (hm : X.mg "enumerate" = none) (ha : DO X e ta) (hs : starEach [e] X.env = [(false, eval e X.env)] := by rfl) (he : starEach [e] X.env = (false, eval e X.env) :: starEach [] X.env := by rfl) :
    DI X (.Tuple elts kk tpos) (.Call (.Name "enumerate" p) [e] [] pos) (iEnumD ta) := PI.imp (pi_enum hg hm (pa_cons ha pa_nil he) hs) fun σ H R' ⟨B, ρ, q, R, t, k⟩ => by
  refine ⟨B, ρ, _, R, t, fun o ρ1 v H1 t1 m1 R1 i1 => ?_⟩
  obtain ⟨d, ρ2, h2, is, R2, m2⟩ := i1.tk R1 t1
  split at h2
  · rename_i ds
    cases is with
    | @lst a1 xs _ n e1 all =>
      refine ⟨a1, xs, rfl, SqL.of e1, k _ _ _ _ h2 (m1.trans m2) R2 fun i O' H' m => ?_⟩
      have e' : H' a1 = some (.lst xs) := m.1 _ _ e1 (.inl n)
      refine ⟨fun d hd => ?_, fun hl => ⟨xs, SqL.of e', ?_⟩⟩
      · obtain ⟨de, hde, rfl⟩ := zw_get hd
        obtain ⟨w, hw, iw⟩ := all.get hde
        refine ⟨⟨xs, w, SqL.of e', hw⟩, fun x H'' ⟨T, y, ex, hT, eH, hy⟩ => ?_⟩
        subst ex eH
        have ey : y = w := Option.some.inj ((hy xs (SqL.of e')).symm.trans hw)
        subst ey
        exact ⟨same_new hT, .tup upd_same (.cons (.int _) (.cons ((iw.mono m).mono (.new hT)) .nil))⟩
      · rw [List.length_zipWith, List.length_range, Nat.min_self] at hl
        rw [all.length]
        exact Nat.le_of_eq hl.symm
  · exact h2.elim
/-- x ** n -/
def CPowW (i j : Int) : Prop := 0 ≤ j ∧ (i.natAbs.log2 + 1 : Nat) * j ≤ 134217728
abbrev gPow : D2 := gII CPowW fun i j => .int (i ^ j.toNat)
theorem op_powW : OpR X (binaryOp .Pow) (rI CPowW fun i j => .int (i ^ j.toNat)) := opI fun i j _ _ _ _ _ hc q => by
  refine pow_int hc.1 ?_ q
  have b : Builtin.Int.intBits i ≤ i.natAbs.log2 + 1 := by
    unfold Builtin.Int.intBits
    split <;> omega
  have h1 : ((Builtin.Int.intBits i : Nat) : Int) ≤ ((i.natAbs.log2 + 1 : Nat) : Int) := by omega
  have h2 : ((Builtin.Int.intBits i : Nat) : Int) * j ≤ ((i.natAbs.log2 + 1 : Nat) : Int) * j := Int.mul_le_mul_of_nonneg_right h1 hc.1
  have h3 := hc.2
  have e : (2 : Int) ^ 27 = 134217728 := by decide
  rw [e]
  omega
theorem do_pow (ha : DO X a ta) (hb : DO X b tb) : DO X (.BinOp a .Pow b pos) (d2 (gII CPowW fun i j => .int (i ^ j.toNat)) ta tb) := do_op op_powW fit_rI ha hb
/-- "LR".index(sign) -/
def gIndex : D2 := fun d e q => match d, e with
  | .str x, .str y => L x = [76, 82] ∧ ((L y = [76] ∧ q (.int 0)) ∨ (L y = [82] ∧ q (.int 1)))
  | _, _ => False
theorem occ_LR0 : Builtin.Str.occurrences ⟨#[76, 82]⟩ ⟨#[76]⟩ 0 (Str.length ⟨#[76, 82]⟩) 1 = [0] := by decide +kernel
theorem occ_LR1 : Builtin.Str.occurrences ⟨#[76, 82]⟩ ⟨#[82]⟩ 0 (Str.length ⟨#[76, 82]⟩) 1 = [1] := by decide +kernel
theorem do_index {apos : Pos} (ha : DO X a ta) (hb : DO X b tb) (hs : starEach [b] X.env = [(false, eval b X.env)] := by rfl) (hbase : attributeBase a "index" X.env (eval a X.env) = eval a X.env := by rfl) (hline : (apos.endLine == pos.line) = true := by rfl) :
    DO X (.Call (.Attribute a "index" apos) [b] [] pos) (dM1 gIndex ta tb) := PE.imp (pe_m1 F.slot_str_index F.type_str_index mt_sindex ha hb hs hbase hline) fun _ _ _ h => upM1 (fun O H x y d e q Q _ hx hy h k => by
  unfold gIndex at h
  split at h
  · rename_i x y
    obtain ⟨h1, h2⟩ := h
    have ex : x = ⟨#[76, 82]⟩ := by rw [← mk_L x, h1]; rfl
    subst ex
    rcases h2 with ⟨h2, h3⟩ | ⟨h2, h3⟩
    · exact ⟨_, ⟨#[76]⟩, 0, [], hx.str, by rw [hy.str, str_one h2], occ_LR0, k _ _ _ h3 (Same.refl _) (.int _)⟩
    · exact ⟨_, ⟨#[82]⟩, 1, [], hx.str, by rw [hy.str, str_one h2], occ_LR1, k _ _ _ h3 (Same.refl _) (.int _)⟩
  · exact h.elim) h

/-! ### dict(zip(xs, ys)) -/
/-- the pairs of a dict, the later ones win -/
def dMerge (es : List (PyData × PyData)) : List (PyData × PyData) → List (PyData × PyData)
  | [] => es
  | (k, d) :: r => dMerge (dPutD es k d) r
end
end DL
namespace DL
open PySem PySem.Spec PyProof.Rows L2

/-! ### zip over lists, tuples and texts in any mix -/
inductive ZS where
  | l (a : Addr)
  | t (a : Addr)
  | s (x : Str)
def ZS.v : ZS → V
  | .l a => .ref a
  | .t a => .ref a
  | .s x => .str x
def ZS.sq (K : PySem.W.Frag) : ZS → Hp → List V → Prop
  | .l a, H, xs => SqL K H a xs
  | .t a, H, xs => SqT K H a xs
  | .s x, _, xs => xs = x.cps.toList.map fun c => .str ⟨#[c]⟩
def ZS.st : ZS → Addr → Nat → Heap → Prop
  | .l a, it, i, h => h.IsListIter it a i
  | .t a, it, i, h => h.IsTupleIter it a i
  | .s x, it, i, h => ∃ t, h.IsStrIter it (strIterType x) x t i
def ZS.lt : ZS → Addr → Prop
  | .l a, N => a < N
  | .t a, N => a < N
  | .s _, _ => True
theorem ZS.st.obj {z : ZS} {it : Addr} {i : Nat} {h : Heap} (s : z.st it i h) : ∃ o, h.get? it = some o ∧ ∀ v, o.data ≠ .cell v := by
  cases z with
  | l a => obtain ⟨o, e, _, d⟩ := s; exact ⟨o, e, fun v q => by rw [d] at q; cases q⟩
  | t a => obtain ⟨o, e, _, d⟩ := s; exact ⟨o, e, fun v q => by rw [d] at q; cases q⟩
  | s x => obtain ⟨t, o, e, _, d⟩ := s; exact ⟨o, e, fun v q => by rw [d] at q; cases q⟩
theorem ZS.st.keep {z : ZS} {it : Addr} {i : Nat} {h h' : Heap} (s : z.st it i h) (k : ∀ o, h.get? it = some o → h'.get? it = some o) : z.st it i h' := by
  cases z with
  | l a => obtain ⟨o, e, r⟩ := s; exact ⟨o, k o e, r⟩
  | t a => obtain ⟨o, e, r⟩ := s; exact ⟨o, k o e, r⟩
  | s x => obtain ⟨t, o, e, r⟩ := s; exact ⟨t, o, k o e, r⟩
section
variable {X : Cx} {pins : List (Addr × Obj)} {σ : L2.St} {H : Hp} {s : Shared} {z : ZS} {xs : List V} {it N : Addr} {i : Nat}
theorem rel_get : ∀ {xs : List V} {us : List Value} {i : Nat} {u : Value}, Vals xs us → us[i]? = some u → ∃ x, xs[i]? = some x ∧ RelV x u
  | _, _, _, _, .nil, e => by simp at e
  | _, _, 0, _, .cons r _, e => by simp at e; subst e; exact ⟨_, rfl, r⟩
  | _, _, i + 1, u, .cons _ t, e => by
    obtain ⟨x, h1, h2⟩ := rel_get (i := i) (u := u) t (by simpa using e)
    exact ⟨x, by simpa using h1, h2⟩
theorem ZS.sq_inj {ys : List V} (I : Inv X pins σ H s) (h : z.sq X.K H xs) (h' : z.sq X.K H ys) : xs = ys := by
  cases z with
  | l a => exact I.list_inj h h'
  | t a => exact I.tuple_inj h h'
  | s x => exact h.trans h'.symm
theorem ZS.draw (I : Inv X pins σ H s) (hc : X.calm = true) (hq : z.sq X.K H xs) (st : z.st it i s.heap) (lt : z.lt N) (hit : N ≤ it) :
    ∃ fp P St, Draws X.prog X.w X.A.in1 it (it :: fp) xs.length P St ∧ St i s.heap ∧ (∀ j h, St j h → z.st it j h) ∧ (∀ b ∈ fp, b < N) ∧ ∀ j v, P j v → ∃ x, xs[j]? = some x ∧ RelV x v := by
  have hh : X.A.in1.handled = none := I.ok.hd hc
  cases z with
  | l a =>
    obtain ⟨its, rv, p, _⟩ := I.list hq
    have hl := rv.length
    have D := Draws.list (prog := X.prog) (w := X.w) hh it a (Nat.ne_of_lt (Nat.lt_of_lt_of_le lt hit)) its.toArray
    refine ⟨[a], fun j v => its.toArray[j]? = some v, fun j h => h.IsListIter it a j ∧ h.IsList a its.toArray, by rw [hl]; simpa using D, ⟨st, p.isList⟩, fun j h q => q.1, fun b hb => by rw [List.mem_singleton.mp hb]; exact lt, fun j v hv => ?_⟩
    have hv' : its[j]? = some v := by simpa using hv
    exact rel_get rv hv'
  | t a =>
    obtain ⟨its, rv, p, _⟩ := I.tuple hq
    have hl := rv.length
    have D := Draws.tuple (prog := X.prog) (w := X.w) hh it a (Nat.ne_of_lt (Nat.lt_of_lt_of_le lt hit)) its.toArray
    refine ⟨[a], fun j v => its.toArray[j]? = some v, fun j h => h.IsTupleIter it a j ∧ h.IsTuple a its.toArray, by rw [hl]; simpa using D, ⟨st, p⟩, fun j h q => q.1, fun b hb => by rw [List.mem_singleton.mp hb]; exact lt, fun j v hv => ?_⟩
    have hv' : its[j]? = some v := by simpa using hv
    exact rel_get rv hv'
  | s x =>
    obtain ⟨t, st⟩ := st
    have e : xs.length = x.cps.size := by rw [show xs = _ from hq, List.length_map, Array.length_toList]
    have D := Draws.text (prog := X.prog) (w := X.w) hh it x t
    refine ⟨[], fun j v => ∃ c u, x.cps[j]? = some c ∧ v = .str ⟨#[c]⟩ u, fun j h => h.IsStrIter it (strIterType x) x t j, by rw [e]; exact D, st, fun j h q => ⟨t, q⟩, fun b hb => by simp at hb, fun j v ⟨c, u, hc, ev⟩ => ⟨.str ⟨#[c]⟩, ?_, ⟨u, ev⟩⟩⟩
    rw [show xs = _ from hq, List.getElem?_map, Array.getElem?_toList, hc]
    rfl
theorem ZS.begins {v : Value} (I : Inv X pins σ H s) (hq : z.sq X.K H xs) (r : RelV z.v v) : ∃ o Hb, Begins v o Hb ∧ Hb s.heap ∧ (∀ h it, h.get? it = some o → z.st it 0 h) ∧ z.lt s.heap.objs.size := by
  cases z with
  | l a =>
    cases r
    obtain ⟨its, rv, p, _⟩ := I.list hq
    exact ⟨_, _, begins_list a its.toArray, p.isList, fun h it e => ⟨_, e, rfl, rfl⟩, p.lt⟩
  | t a =>
    cases r
    obtain ⟨its, rv, p, _⟩ := I.tuple hq
    obtain ⟨o, ho, _⟩ := id p
    exact ⟨_, _, begins_tuple a its.toArray, p, fun h it e => ⟨_, e, rfl, rfl⟩, Heap.lt_size ho⟩
  | s x =>
    obtain ⟨t, rfl⟩ := r
    exact ⟨_, _, begins_text x t, trivial, fun h it e => ⟨t, _, e, rfl, rfl⟩, trivial⟩
end
/-- zip of 2 -/
def Itz2s (K : PySem.W.Frag) (z1 z2 : ZS) : It :=
  ⟨fun i H => ∃ (xs1 xs2 : List V) (x1 x2 : V), z1.sq K H xs1 ∧ z2.sq K H xs2 ∧ xs1[i]? = some x1 ∧ xs2[i]? = some x2,
    fun i H v H' => ∃ (T : Addr) (x1 x2 : V), v = .ref T ∧ H T = none ∧ H' = upd H T (.tup [x1, x2]) ∧ (∀ xs, z1.sq K H xs → xs[i]? = some x1) ∧ (∀ xs, z2.sq K H xs → xs[i]? = some x2),
    fun i H => ∃ (xs1 xs2 : List V), z1.sq K H xs1 ∧ z2.sq K H xs2 ∧ i = min xs1.length xs2.length⟩
theorem turn_zip2s {P : Program} {w : World} {K : PySem.W.Frag} {elts : List Expr} {kk : Nat} {tpos : Pos} {z1 z2 : ZS} {N : Addr} (l1 : z1.lt N) (l2 : z2.lt N) :
    Turn P w K (.Tuple elts kk tpos) (Itz2s K z1 z2) [N + 4, N + 2, N + 3, N, N + 1] (N + 4) (fun i h => IsZip h (N + 4) (N + 2) (N + 3) .none ∧ IsTupOf2 h (N + 2) (.ref (N)) (.ref (N + 1)) ∧ (∃ a1 a2, IsTupOf2 h (N + 3) a1 a2) ∧ z1.st (N) i h ∧ z2.st (N + 1) i h) where
  mem := by simp
  obj := fun i h st c hc => by
    obtain ⟨hz, hTI, ⟨y1, y2, hTO⟩, s1, s2⟩ := st
    simp only [List.mem_cons, List.not_mem_nil, or_false] at hc
    rcases hc with rfl | rfl | rfl | rfl | rfl
    · exact ⟨_, hz, fun v q => nomatch q⟩
    · exact ⟨_, hTI, fun v q => nomatch q⟩
    · exact ⟨_, hTO, fun v q => nomatch q⟩
    · exact s1.obj
    · exact s2.obj
  keep := fun i h h' st k => by
    obtain ⟨hz, hTI, ⟨y1, y2, hTO⟩, s1, s2⟩ := st
    exact ⟨k _ (by simp) _ hz, k _ (by simp) _ hTI, ⟨y1, y2, k _ (by simp) _ hTO⟩, s1.keep fun o q => k _ (by simp) o q, s2.keep fun o q => k _ (by simp) o q⟩
  item := by
    intro X hP hw hK hc i pins s σ H E I hf st hg
    subst hP hw hK
    obtain ⟨hz, hTI, hTO, s1, s2⟩ := st
    obtain ⟨xs1, xs2, x1, x2, q1, q2, g1, g2⟩ := hg
    obtain ⟨f1, P1, St1, D1, c1, b1, o1, r1⟩ := ZS.draw I hc q1 s1 l1 (Nat.le_refl _)
    obtain ⟨f2, P2, St2, D2, c2, b2, o2, r2⟩ := ZS.draw I hc q2 s2 l2 (Nat.le_add_right _ _)
    have e1 : i < xs1.length := (List.getElem?_eq_some_iff.mp g1).1
    have e2 : i < xs2.length := (List.getElem?_eq_some_iff.mp g2).1
    refine (GoesN.zip2 (elts := elts) (x1 := kk) (pos := tpos) (zip_sep2 o1 o2) D1 D2).goes i s _ E (by omega) ⟨hz, hTI, hTO, c1, c2⟩ fun v h' tk ⟨T, u1, u2, ev, hT, p1, p2, ht⟩ ⟨hz', hTI', hTO', c1', c2'⟩ hk htk => ?_
    obtain ⟨w1, hw1, rw1⟩ := r1 _ _ p1
    rw [g1] at hw1
    cases hw1
    obtain ⟨w2, hw2, rw2⟩ := r2 _ _ p2
    rw [g2] at hw2
    cases hw2
    subst ev
    have new : ObjOk X.prog X.w (upd H T (.tup [x1, x2])) h' T (.tup [x1, x2]) :=
      ⟨by show 2 ≤ sizeLine; decide, [u1, u2], .cons rw1 (.cons rw2 (.nil)), ht⟩
    have I1 := I.turnedNew (t' := tk) (ch := [N + 4, N + 3, N, N + 1]) (fun b o hb q => hk b o hb q) (fun b hb => hf b (by
      simp only [List.mem_cons, List.not_mem_nil, or_false] at hb ⊢
      rcases hb with h | h | h | h <;> simp [h])) hT new
    refine ⟨.ref T, _, I1, rfl, ⟨T, x1, x2, rfl, I.hok.fresh hT, rfl, fun l hl => by rw [ZS.sq_inj I hl q1]; exact g1, fun l hl => by rw [ZS.sq_inj I hl q2]; exact g2⟩, ⟨hz', hTI', hTO', b1 _ _ c1', b2 _ _ c2'⟩, fun c hcm => ?_⟩
    have hlt : c < s.heap.objs.size := by
      simp only [List.mem_cons, List.not_mem_nil, or_false] at hcm
      rcases hcm with rfl | rfl | rfl | rfl | rfl
      · exact Heap.lt_size hz
      · exact Heap.lt_size hTI
      · obtain ⟨y1, y2, hTO⟩ := hTO
        exact Heap.lt_size hTO
      · obtain ⟨o, e, _⟩ := s1.obj; exact Heap.lt_size e
      · obtain ⟨o, e, _⟩ := s2.obj; exact Heap.lt_size e
    rw [upd_ne (Nat.ne_of_lt (Nat.lt_of_lt_of_le hlt hT))]
    exact (hf c hcm).1
  done := by
    intro X hP hw hK hc i pins s σ H E I hf st hg
    subst hP hw hK
    obtain ⟨hz, hTI, hTO, s1, s2⟩ := st
    obtain ⟨xs1, xs2, q1, q2, hi⟩ := hg
    obtain ⟨f1, P1, St1, D1, c1, b1, o1, r1⟩ := ZS.draw I hc q1 s1 l1 (Nat.le_refl _)
    obtain ⟨f2, P2, St2, D2, c2, b2, o2, r2⟩ := ZS.draw I hc q2 s2 l2 (Nat.le_add_right _ _)
    subst hi
    refine (GoesN.zip2 (elts := elts) (x1 := kk) (pos := tpos) (zip_sep2 o1 o2) D1 D2).stops s _ E ⟨hz, hTI, hTO, c1, c2⟩ fun h' tk hk htk => ?_
    exact I.turnedL (t' := tk) (ch := [N + 4, N + 3, N, N + 1]) (fun b o hb q => hk b o hb q) (fun b hb => hf b (by
      simp only [List.mem_cons, List.not_mem_nil, or_false] at hb ⊢
      rcases hb with h | h | h | h <;> simp [h]))
  self := fun A i s Q E st h => wpAny_pyIter_zip st.1 h
def iZip2s (K : PySem.W.Frag) (ta : TA) : TI := fun σ H R => ta σ H fun vs H1 => ∃ (z1 z2 : ZS) (xs1 xs2 : List V), vs = [z1.v, z2.v] ∧ z1.sq K H1 xs1 ∧ z2.sq K H1 xs2 ∧ R (Itz2s K z1 z2) H1
theorem pi_zip2s {X : Cx} {e1 e2 : Expr} {ta : TA} {p pos tpos : Pos} {elts : List Expr} {kk : Nat} (hg : Gl X "zip") (hm : X.mg "zip" = none) (ha : PA X [e1, e2] ta)
    (hs : starEach [e1, e2] X.env = (false, eval e1 X.env) :: starEach [e2] X.env := by rfl) (hpl : (backTo pos (starEach [e2] X.env)).any (·.1) = false := by rfl) :
    PI X (.Tuple elts kk tpos) (.Call (.Name "zip" p) [e1, e2] [] pos) (iZip2s X.K ta) := by
  refine ⟨fun pins s σ H R I h => ?_⟩
  refine Call_ (ld_blt I hg hm PyProof.Rows.boot_zip (PyProof.Rows.callWith_type1 (thn (ha.run pos pins s σ H _ I h) fun us s1 ⟨vs, H1, I1, rr, qq⟩ => ?_) hs hpl))
  obtain ⟨z1, z2, xs1, xs2, ex, q1, q2, q⟩ := qq
  subst ex
  obtain ⟨v1, us1, e1, r1, rr1⟩ : ∃ v l, us = v :: l ∧ RelV z1.v v ∧ Vals [z2.v] l := by
    cases rr with
    | cons a b => exact ⟨_, _, rfl, a, b⟩
  subst e1
  obtain ⟨v2, us2, e2, r2, rr2⟩ : ∃ v l, us1 = v :: l ∧ RelV z2.v v ∧ Vals [] l := by
    cases rr1 with
    | cons a b => exact ⟨_, _, rfl, a, b⟩
  subst e2
  cases rr2
  obtain ⟨o1, B1, b1, t1, w1, y1⟩ := ZS.begins I1 q1 r1
  obtain ⟨o2, B2, b2, t2, w2, y2⟩ := ZS.begins I1 q2 r2
  refine zip_begins2 b1 b2 t1 t2 fun h' hz hTI hTO g1 g2 hsz hk => wpAny_pyIter_zip hz ?_
  have I2 : Inv X pins σ H1 { s1 with heap := h' } := I1.kept (t' := s1.toks) hk
  refine ⟨s1.heap.objs.size + 4, [s1.heap.objs.size + 4, s1.heap.objs.size + 2, s1.heap.objs.size + 3, s1.heap.objs.size, s1.heap.objs.size + 1], _, _, H1, rfl, I2, turn_zip2s y1 y2, ⟨hz, hTI, ⟨_, _, hTO⟩, w1 _ _ g1, w2 _ _ g2⟩, fun c hcm => ?_, q⟩
  have hle : s1.heap.objs.size ≤ c := by
    simp only [List.mem_cons, List.not_mem_nil, or_false] at hcm
    rcases hcm with rfl | rfl | rfl | rfl | rfl <;> first | exact Nat.le_add_right _ _ | exact Nat.le_refl _
  exact I1.fpOk hle (I1.hok.fresh hle)
/-- zip of 3 -/
def Itz3s (K : PySem.W.Frag) (z1 z2 z3 : ZS) : It :=
  ⟨fun i H => ∃ (xs1 xs2 xs3 : List V) (x1 x2 x3 : V), z1.sq K H xs1 ∧ z2.sq K H xs2 ∧ z3.sq K H xs3 ∧ xs1[i]? = some x1 ∧ xs2[i]? = some x2 ∧ xs3[i]? = some x3,
    fun i H v H' => ∃ (T : Addr) (x1 x2 x3 : V), v = .ref T ∧ H T = none ∧ H' = upd H T (.tup [x1, x2, x3]) ∧ (∀ xs, z1.sq K H xs → xs[i]? = some x1) ∧ (∀ xs, z2.sq K H xs → xs[i]? = some x2) ∧ (∀ xs, z3.sq K H xs → xs[i]? = some x3),
    fun i H => ∃ (xs1 xs2 xs3 : List V), z1.sq K H xs1 ∧ z2.sq K H xs2 ∧ z3.sq K H xs3 ∧ i = min (min xs1.length xs2.length) xs3.length⟩
theorem turn_zip3s {P : Program} {w : World} {K : PySem.W.Frag} {elts : List Expr} {kk : Nat} {tpos : Pos} {z1 z2 z3 : ZS} {N : Addr} (l1 : z1.lt N) (l2 : z2.lt N) (l3 : z3.lt N) :
    Turn P w K (.Tuple elts kk tpos) (Itz3s K z1 z2 z3) [N + 5, N + 3, N + 4, N, N + 1, N + 2] (N + 5) (fun i h => IsZip h (N + 5) (N + 3) (N + 4) .none ∧ IsTupOf3 h (N + 3) (.ref (N)) (.ref (N + 1)) (.ref (N + 2)) ∧ (∃ a1 a2 a3, IsTupOf3 h (N + 4) a1 a2 a3) ∧ z1.st (N) i h ∧ z2.st (N + 1) i h ∧ z3.st (N + 2) i h) where
  mem := by simp
  obj := fun i h st c hc => by
    obtain ⟨hz, hTI, ⟨y1, y2, y3, hTO⟩, s1, s2, s3⟩ := st
    simp only [List.mem_cons, List.not_mem_nil, or_false] at hc
    rcases hc with rfl | rfl | rfl | rfl | rfl | rfl
    · exact ⟨_, hz, fun v q => nomatch q⟩
    · exact ⟨_, hTI, fun v q => nomatch q⟩
    · exact ⟨_, hTO, fun v q => nomatch q⟩
    · exact s1.obj
    · exact s2.obj
    · exact s3.obj
  keep := fun i h h' st k => by
    obtain ⟨hz, hTI, ⟨y1, y2, y3, hTO⟩, s1, s2, s3⟩ := st
    exact ⟨k _ (by simp) _ hz, k _ (by simp) _ hTI, ⟨y1, y2, y3, k _ (by simp) _ hTO⟩, s1.keep fun o q => k _ (by simp) o q, s2.keep fun o q => k _ (by simp) o q, s3.keep fun o q => k _ (by simp) o q⟩
  item := by
    intro X hP hw hK hc i pins s σ H E I hf st hg
    subst hP hw hK
    obtain ⟨hz, hTI, hTO, s1, s2, s3⟩ := st
    obtain ⟨xs1, xs2, xs3, x1, x2, x3, q1, q2, q3, g1, g2, g3⟩ := hg
    obtain ⟨f1, P1, St1, D1, c1, b1, o1, r1⟩ := ZS.draw I hc q1 s1 l1 (Nat.le_refl _)
    obtain ⟨f2, P2, St2, D2, c2, b2, o2, r2⟩ := ZS.draw I hc q2 s2 l2 (Nat.le_add_right _ _)
    obtain ⟨f3, P3, St3, D3, c3, b3, o3, r3⟩ := ZS.draw I hc q3 s3 l3 (Nat.le_add_right _ _)
    have e1 : i < xs1.length := (List.getElem?_eq_some_iff.mp g1).1
    have e2 : i < xs2.length := (List.getElem?_eq_some_iff.mp g2).1
    have e3 : i < xs3.length := (List.getElem?_eq_some_iff.mp g3).1
    refine (GoesN.zip3 (elts := elts) (x1 := kk) (pos := tpos) (zip_sep3 o1 o2 o3) D1 D2 D3).goes i s _ E (by omega) ⟨hz, hTI, hTO, c1, c2, c3⟩ fun v h' tk ⟨T, u1, u2, u3, ev, hT, p1, p2, p3, ht⟩ ⟨hz', hTI', hTO', c1', c2', c3'⟩ hk htk => ?_
    obtain ⟨w1, hw1, rw1⟩ := r1 _ _ p1
    rw [g1] at hw1
    cases hw1
    obtain ⟨w2, hw2, rw2⟩ := r2 _ _ p2
    rw [g2] at hw2
    cases hw2
    obtain ⟨w3, hw3, rw3⟩ := r3 _ _ p3
    rw [g3] at hw3
    cases hw3
    subst ev
    have new : ObjOk X.prog X.w (upd H T (.tup [x1, x2, x3])) h' T (.tup [x1, x2, x3]) :=
      ⟨by show 3 ≤ sizeLine; decide, [u1, u2, u3], .cons rw1 (.cons rw2 (.cons rw3 (.nil))), ht⟩
    have I1 := I.turnedNew (t' := tk) (ch := [N + 5, N + 4, N, N + 1, N + 2]) (fun b o hb q => hk b o hb q) (fun b hb => hf b (by
      simp only [List.mem_cons, List.not_mem_nil, or_false] at hb ⊢
      rcases hb with h | h | h | h | h <;> simp [h])) hT new
    refine ⟨.ref T, _, I1, rfl, ⟨T, x1, x2, x3, rfl, I.hok.fresh hT, rfl, fun l hl => by rw [ZS.sq_inj I hl q1]; exact g1, fun l hl => by rw [ZS.sq_inj I hl q2]; exact g2, fun l hl => by rw [ZS.sq_inj I hl q3]; exact g3⟩, ⟨hz', hTI', hTO', b1 _ _ c1', b2 _ _ c2', b3 _ _ c3'⟩, fun c hcm => ?_⟩
    have hlt : c < s.heap.objs.size := by
      simp only [List.mem_cons, List.not_mem_nil, or_false] at hcm
      rcases hcm with rfl | rfl | rfl | rfl | rfl | rfl
      · exact Heap.lt_size hz
      · exact Heap.lt_size hTI
      · obtain ⟨y1, y2, y3, hTO⟩ := hTO
        exact Heap.lt_size hTO
      · obtain ⟨o, e, _⟩ := s1.obj; exact Heap.lt_size e
      · obtain ⟨o, e, _⟩ := s2.obj; exact Heap.lt_size e
      · obtain ⟨o, e, _⟩ := s3.obj; exact Heap.lt_size e
    rw [upd_ne (Nat.ne_of_lt (Nat.lt_of_lt_of_le hlt hT))]
    exact (hf c hcm).1
  done := by
    intro X hP hw hK hc i pins s σ H E I hf st hg
    subst hP hw hK
    obtain ⟨hz, hTI, hTO, s1, s2, s3⟩ := st
    obtain ⟨xs1, xs2, xs3, q1, q2, q3, hi⟩ := hg
    obtain ⟨f1, P1, St1, D1, c1, b1, o1, r1⟩ := ZS.draw I hc q1 s1 l1 (Nat.le_refl _)
    obtain ⟨f2, P2, St2, D2, c2, b2, o2, r2⟩ := ZS.draw I hc q2 s2 l2 (Nat.le_add_right _ _)
    obtain ⟨f3, P3, St3, D3, c3, b3, o3, r3⟩ := ZS.draw I hc q3 s3 l3 (Nat.le_add_right _ _)
    subst hi
    refine (GoesN.zip3 (elts := elts) (x1 := kk) (pos := tpos) (zip_sep3 o1 o2 o3) D1 D2 D3).stops s _ E ⟨hz, hTI, hTO, c1, c2, c3⟩ fun h' tk hk htk => ?_
    exact I.turnedL (t' := tk) (ch := [N + 5, N + 4, N, N + 1, N + 2]) (fun b o hb q => hk b o hb q) (fun b hb => hf b (by
      simp only [List.mem_cons, List.not_mem_nil, or_false] at hb ⊢
      rcases hb with h | h | h | h | h <;> simp [h]))
  self := fun A i s Q E st h => wpAny_pyIter_zip st.1 h
def iZip3s (K : PySem.W.Frag) (ta : TA) : TI := fun σ H R => ta σ H fun vs H1 => ∃ (z1 z2 z3 : ZS) (xs1 xs2 xs3 : List V), vs = [z1.v, z2.v, z3.v] ∧ z1.sq K H1 xs1 ∧ z2.sq K H1 xs2 ∧ z3.sq K H1 xs3 ∧ R (Itz3s K z1 z2 z3) H1
theorem pi_zip3s {X : Cx} {e1 e2 e3 : Expr} {ta : TA} {p pos tpos : Pos} {elts : List Expr} {kk : Nat} (hg : Gl X "zip") (hm : X.mg "zip" = none) (ha : PA X [e1, e2, e3] ta)
    (hs : starEach [e1, e2, e3] X.env = (false, eval e1 X.env) :: starEach [e2, e3] X.env := by rfl) (hpl : (backTo pos (starEach [e2, e3] X.env)).any (·.1) = false := by rfl) :
    PI X (.Tuple elts kk tpos) (.Call (.Name "zip" p) [e1, e2, e3] [] pos) (iZip3s X.K ta) := by
  refine ⟨fun pins s σ H R I h => ?_⟩
  refine Call_ (ld_blt I hg hm PyProof.Rows.boot_zip (PyProof.Rows.callWith_type1 (thn (ha.run pos pins s σ H _ I h) fun us s1 ⟨vs, H1, I1, rr, qq⟩ => ?_) hs hpl))
  obtain ⟨z1, z2, z3, xs1, xs2, xs3, ex, q1, q2, q3, q⟩ := qq
  subst ex
  obtain ⟨v1, us1, e1, r1, rr1⟩ : ∃ v l, us = v :: l ∧ RelV z1.v v ∧ Vals [z2.v, z3.v] l := by
    cases rr with
    | cons a b => exact ⟨_, _, rfl, a, b⟩
  subst e1
  obtain ⟨v2, us2, e2, r2, rr2⟩ : ∃ v l, us1 = v :: l ∧ RelV z2.v v ∧ Vals [z3.v] l := by
    cases rr1 with
    | cons a b => exact ⟨_, _, rfl, a, b⟩
  subst e2
  obtain ⟨v3, us3, e3, r3, rr3⟩ : ∃ v l, us2 = v :: l ∧ RelV z3.v v ∧ Vals [] l := by
    cases rr2 with
    | cons a b => exact ⟨_, _, rfl, a, b⟩
  subst e3
  cases rr3
  obtain ⟨o1, B1, b1, t1, w1, y1⟩ := ZS.begins I1 q1 r1
  obtain ⟨o2, B2, b2, t2, w2, y2⟩ := ZS.begins I1 q2 r2
  obtain ⟨o3, B3, b3, t3, w3, y3⟩ := ZS.begins I1 q3 r3
  refine zip_begins3 b1 b2 b3 t1 t2 t3 fun h' hz hTI hTO g1 g2 g3 hsz hk => wpAny_pyIter_zip hz ?_
  have I2 : Inv X pins σ H1 { s1 with heap := h' } := I1.kept (t' := s1.toks) hk
  refine ⟨s1.heap.objs.size + 5, [s1.heap.objs.size + 5, s1.heap.objs.size + 3, s1.heap.objs.size + 4, s1.heap.objs.size, s1.heap.objs.size + 1, s1.heap.objs.size + 2], _, _, H1, rfl, I2, turn_zip3s y1 y2 y3, ⟨hz, hTI, ⟨_, _, _, hTO⟩, w1 _ _ g1, w2 _ _ g2, w3 _ _ g3⟩, fun c hcm => ?_, q⟩
  have hle : s1.heap.objs.size ≤ c := by
    simp only [List.mem_cons, List.not_mem_nil, or_false] at hcm
    rcases hcm with rfl | rfl | rfl | rfl | rfl | rfl <;> first | exact Nat.le_add_right _ _ | exact Nat.le_refl _
  exact I1.fpOk hle (I1.hok.fresh hle)
end DL
namespace DL
open PySem PySem.Spec PyProof.Rows L2

/-! ### zips, on data -/
/-- what is walked: a list, a tuple, a text -/
def seqD : PyData → Option (List PyData)
  | .list ds => some ds
  | .tuple ds => some ds
  | .str x => some ((L x).map fun c => S [c])
  | _ => none
theorem zs_of {K : PySem.W.Frag} {O : Addr → Prop} {H0 : Hp} {v : V} {d : PyData} {ds : List PyData} (is : Is O H0 v d) (e : seqD d = some ds) :
    ∃ (z : ZS) (xs : List V), v = z.v ∧ xs.length = ds.length ∧ z.sq K H0 xs ∧ ∀ O' H, Adv O O' H0 H → z.sq K H xs ∧ IsAll O' H xs ds := by
  cases is with
  | non => cases e
  | bl b => cases e
  | int i => cases e
  | @lst a xs ds' n r all =>
    cases e
    exact ⟨.l a, xs, rfl, all.length, SqL.of r, fun O' H m => ⟨SqL.of (m.1 _ _ r (.inl n)), all.mono m⟩⟩
  | @tup a xs ds' r all =>
    cases e
    exact ⟨.t a, xs, rfl, all.length, SqT.of r, fun O' H m => ⟨SqT.of (m.1 _ _ r (.inr rfl)), all.mono m⟩⟩
  | str x =>
    cases e
    have go : ∀ (l : List Nat) (O' : Addr → Prop) (H : Hp), IsAll O' H (l.map fun c => V.str ⟨#[c]⟩) (l.map fun c => S [c]) := by
      intro l O' H
      induction l with
      | nil => exact .nil
      | cons c l ih => exact .cons (.str _) ih
    exact ⟨.s x, x.cps.toList.map fun c => .str ⟨#[c]⟩, rfl, by rw [List.length_map, List.length_map]; rfl, rfl, fun O' H m => ⟨rfl, go _ _ _⟩⟩
  | dK n r t => cases e
  | dT n r t => cases e
def zip2D (xs ys : List PyData) : List PyData := List.zipWith (fun a b => .tuple [a, b]) xs ys
def zip3D (xs ys zs : List PyData) : List PyData := List.zipWith (fun ab c => match ab with | .tuple l => .tuple (l ++ [c]) | d => d) (zip2D xs ys) zs
theorem zw2 {xs ys : List PyData} {i : Nat} {d : PyData} (h : (zip2D xs ys)[i]? = some d) : ∃ a b, xs[i]? = some a ∧ ys[i]? = some b ∧ d = .tuple [a, b] := by
  unfold zip2D at h
  rw [List.getElem?_zipWith] at h
  cases q : xs[i]? with
  | none => rw [q] at h; cases h
  | some a =>
    cases q2 : ys[i]? with
    | none => rw [q, q2] at h; cases h
    | some b =>
      rw [q, q2] at h
      cases h
      exact ⟨a, b, rfl, rfl, rfl⟩
theorem zw3 {xs ys zs : List PyData} {i : Nat} {d : PyData} (h : (zip3D xs ys zs)[i]? = some d) : ∃ a b c, xs[i]? = some a ∧ ys[i]? = some b ∧ zs[i]? = some c ∧ d = .tuple [a, b, c] := by
  unfold zip3D at h
  rw [List.getElem?_zipWith] at h
  cases q : (zip2D xs ys)[i]? with
  | none => rw [q] at h; cases h
  | some ab =>
    obtain ⟨a, b, h1, h2, rfl⟩ := zw2 q
    cases q2 : zs[i]? with
    | none => rw [q, q2] at h; cases h
    | some c =>
      rw [q, q2] at h
      cases h
      exact ⟨a, b, c, h1, h2, rfl, rfl⟩
theorem Is.advNew {O : Addr → Prop} {H : Hp} {T : Addr} {u : HO} {v : V} {d : PyData} (is : Is O H v d) (h : H T = none) : Is O (upd H T u) v d := is.mono (.new h)
theorem src_zip2 {K : PySem.W.Frag} {O : Addr → Prop} {H0 : Hp} {v1 v2 : V} {d1 d2 : PyData} {ds1 ds2 : List PyData} {z1 z2 : ZS} {xs1 xs2 : List V} (l1 : xs1.length = ds1.length) (l2 : xs2.length = ds2.length)
    (k1 : ∀ O' H, Adv O O' H0 H → z1.sq K H xs1 ∧ IsAll O' H xs1 ds1) (k2 : ∀ O' H, Adv O O' H0 H → z2.sq K H xs2 ∧ IsAll O' H xs2 ds2) : Src (Itz2s K z1 z2) O H0 (zip2D ds1 ds2) := fun i O' H m => by
  obtain ⟨q1, a1⟩ := k1 _ _ m
  obtain ⟨q2, a2⟩ := k2 _ _ m
  refine ⟨fun d hd => ?_, fun hl => ⟨xs1, xs2, q1, q2, ?_⟩⟩
  · obtain ⟨a, b, h1, h2, rfl⟩ := zw2 hd
    obtain ⟨w1, g1, i1⟩ := a1.get h1
    obtain ⟨w2, g2, i2⟩ := a2.get h2
    refine ⟨⟨xs1, xs2, w1, w2, q1, q2, g1, g2⟩, fun x H' ⟨T, y1, y2, ex, hT, eH, f1, f2⟩ => ?_⟩
    subst ex eH
    have e1 := Option.some.inj ((f1 xs1 q1).symm.trans g1)
    have e2 := Option.some.inj ((f2 xs2 q2).symm.trans g2)
    subst e1 e2
    exact ⟨same_new hT, .tup upd_same (.cons (i1.advNew hT) (.cons (i2.advNew hT) .nil))⟩
  · rw [zip2D, List.length_zipWith] at hl
    rw [l1, l2]
    exact hl
theorem src_zip3 {K : PySem.W.Frag} {O : Addr → Prop} {H0 : Hp} {ds1 ds2 ds3 : List PyData} {z1 z2 z3 : ZS} {xs1 xs2 xs3 : List V} (l1 : xs1.length = ds1.length) (l2 : xs2.length = ds2.length) (l3 : xs3.length = ds3.length)
    (k1 : ∀ O' H, Adv O O' H0 H → z1.sq K H xs1 ∧ IsAll O' H xs1 ds1) (k2 : ∀ O' H, Adv O O' H0 H → z2.sq K H xs2 ∧ IsAll O' H xs2 ds2) (k3 : ∀ O' H, Adv O O' H0 H → z3.sq K H xs3 ∧ IsAll O' H xs3 ds3) : Src (Itz3s K z1 z2 z3) O H0 (zip3D ds1 ds2 ds3) := fun i O' H m => by
  obtain ⟨q1, a1⟩ := k1 _ _ m
  obtain ⟨q2, a2⟩ := k2 _ _ m
  obtain ⟨q3, a3⟩ := k3 _ _ m
  refine ⟨fun d hd => ?_, fun hl => ⟨xs1, xs2, xs3, q1, q2, q3, ?_⟩⟩
  · obtain ⟨a, b, c, h1, h2, h3, rfl⟩ := zw3 hd
    obtain ⟨w1, g1, i1⟩ := a1.get h1
    obtain ⟨w2, g2, i2⟩ := a2.get h2
    obtain ⟨w3, g3, i3⟩ := a3.get h3
    refine ⟨⟨xs1, xs2, xs3, w1, w2, w3, q1, q2, q3, g1, g2, g3⟩, fun x H' ⟨T, y1, y2, y3, ex, hT, eH, f1, f2, f3⟩ => ?_⟩
    subst ex eH
    have e1 := Option.some.inj ((f1 xs1 q1).symm.trans g1)
    have e2 := Option.some.inj ((f2 xs2 q2).symm.trans g2)
    have e3 := Option.some.inj ((f3 xs3 q3).symm.trans g3)
    subst e1 e2 e3
    exact ⟨same_new hT, .tup upd_same (.cons (i1.advNew hT) (.cons (i2.advNew hT) (.cons (i3.advNew hT) .nil)))⟩
  · rw [zip3D, zip2D, List.length_zipWith, List.length_zipWith] at hl
    rw [l1, l2, l3]
    exact hl
section
variable {X : Cx} {e e1 e2 e3 : Expr} {t : DTA} {pos : Pos}
def iZ2 (t : DTA) : DTI := fun ρ q => t ρ fun os ρ1 => tkAll os ρ1 fun ds ρ2 => match ds with
  | [d, e] => ∃ xs ys, seqD d = some xs ∧ seqD e = some ys ∧ q (zip2D xs ys) ρ2
  | _ => False
def iZ3 (t : DTA) : DTI := fun ρ q => t ρ fun os ρ1 => tkAll os ρ1 fun ds ρ2 => match ds with
  | [d, e, f] => ∃ xs ys zs, seqD d = some xs ∧ seqD e = some ys ∧ seqD f = some zs ∧ q (zip3D xs ys zs) ρ2
  | _ => False
theorem isAll2 {O : Addr → Prop} {H : Hp} {xs : List V} {d e : PyData} (h : IsAll O H xs [d, e]) : ∃ x y, xs = [x, y] ∧ Is O H x d ∧ Is O H y e := by
  cases h with
  | cons r t =>
    cases t with
    | cons r' t => cases t; exact ⟨_, _, rfl, r, r'⟩
theorem isAll3 {O : Addr → Prop} {H : Hp} {xs : List V} {d e f : PyData} (h : IsAll O H xs [d, e, f]) : ∃ x y z, xs = [x, y, z] ∧ Is O H x d ∧ Is O H y e ∧ Is O H z f := by
  cases h with
  | cons r t =>
    obtain ⟨y, z, rfl, r1, r2⟩ := isAll2 t
    exact ⟨_, y, z, rfl, r, r1, r2⟩
theorem di_zip2 {p tpos : Pos} {elts : List Expr} {kk : Nat} (hg : Gl X "zip") (hm : X.mg "zip" = none) (ha : DA X [e1, e2] t)
    (hs : starEach [e1, e2] X.env = (false, eval e1 X.env) :: starEach [e2] X.env := by rfl) (hpl : (backTo pos (starEach [e2] X.env)).any (·.1) = false := by rfl) :
    DI X (.Tuple elts kk tpos) (.Call (.Name "zip" p) [e1, e2] [] pos) (iZ2 t) := PI.imp (pi_zip2s hg hm ha hs hpl) fun σ H R' ⟨B, ρ, q, R, t, k⟩ => by
  refine ⟨B, ρ, _, R, t, fun os ρ1 vs H1 t1 m1 R1 i1 => ?_⟩
  obtain ⟨ds, ρ2, h2, is, R2, m2⟩ := OAll.tk R1 i1 t1
  split at h2
  · obtain ⟨xs, ys, g1, g2, h3⟩ := h2
    obtain ⟨v1, v2, rfl, j1, j2⟩ := isAll2 is
    obtain ⟨z1, xs1, f1, l1, s1, k1⟩ := zs_of (K := X.K) j1 g1
    obtain ⟨z2, xs2, f2, l2, s2, k2⟩ := zs_of (K := X.K) j2 g2
    exact ⟨z1, z2, xs1, xs2, by rw [f1, f2], s1, s2, k _ _ _ _ h3 (m1.trans m2) R2 (src_zip2 (v1 := v1) (v2 := v2) (d1 := .none) (d2 := .none) l1 l2 k1 k2)⟩
  · exact h2.elim
theorem di_zip3 {p tpos : Pos} {elts : List Expr} {kk : Nat} (hg : Gl X "zip") (hm : X.mg "zip" = none) (ha : DA X [e1, e2, e3] t)
    (hs : starEach [e1, e2, e3] X.env = (false, eval e1 X.env) :: starEach [e2, e3] X.env := by rfl) (hpl : (backTo pos (starEach [e2, e3] X.env)).any (·.1) = false := by rfl) :
    DI X (.Tuple elts kk tpos) (.Call (.Name "zip" p) [e1, e2, e3] [] pos) (iZ3 t) := PI.imp (pi_zip3s hg hm ha hs hpl) fun σ H R' ⟨B, ρ, q, R, t, k⟩ => by
  refine ⟨B, ρ, _, R, t, fun os ρ1 vs H1 t1 m1 R1 i1 => ?_⟩
  obtain ⟨ds, ρ2, h2, is, R2, m2⟩ := OAll.tk R1 i1 t1
  split at h2
  · obtain ⟨xs, ys, zs, g1, g2, g3, h3⟩ := h2
    obtain ⟨v1, v2, v3, rfl, j1, j2, j3⟩ := isAll3 is
    obtain ⟨z1, xs1, f1, l1, s1, k1⟩ := zs_of (K := X.K) j1 g1
    obtain ⟨z2, xs2, f2, l2, s2, k2⟩ := zs_of (K := X.K) j2 g2
    obtain ⟨z3, xs3, f3, l3, s3, k3⟩ := zs_of (K := X.K) j3 g3
    exact ⟨z1, z2, z3, xs1, xs2, xs3, by rw [f1, f2, f3], s1, s2, s3, k _ _ _ _ h3 (m1.trans m2) R2 (src_zip3 l1 l2 l3 k1 k2 k3)⟩
  · exact h2.elim
end

/-! ### a, b = a list -/
section
variable {prog : Program} {w : World} {A : Around} {E : Value → Shared → Prop} {s : Shared}
theorem draw_list {it t : Addr} {items : Array Value} (ne' : t ≠ it) : ∀ (n i : Nat) (s : Shared) (Q : List Value → Shared → Prop), s.heap.IsListIter it t i → s.heap.IsList t items → i + n ≤ items.size →
    (∀ h', h'.IsListIter it t (i + n) → Heap.SameBut it s.heap h' → Q ((items.toList.drop i).take n) { s with heap := h' }) → wpAny (model prog w) A (draw (.ref it) n) Q E s := by
  intro n
  induction n with
  | zero =>
    intro i s Q hit _ _ hQ
    show wpAny _ _ (pure []) Q E s
    exact wpAny_pure (by simpa using hQ s.heap hit (Heap.SameBut.refl ..))
  | succ n ih =>
    intro i s Q hit ht hle hQ
    have lt : i < items.size := by omega
    show wpAny _ _ (pyNext (.ref it) >>= _) Q E s
    refine wpAny_bind (wpAny_pyNext_list_item hit ht (x := items[i]) (by simp [lt]) fun h1 hit1 s1 => ?_)
    refine wpAny_bind (wpAny_holding (ih (i + 1) _ _ hit1 (ht.extBut s1.extBut ne') (by omega) fun h2 hit2 s2 => wpAny_pure ?_))
    have e : items.toList.drop i = items[i] :: items.toList.drop (i + 1) := by simp [List.drop_eq_getElem_cons, lt]
    have r := hQ h2 (by rw [show i + (n + 1) = i + 1 + n by omega]; exact hit2) (s1.trans s2)
    rw [e, List.take_succ_cons] at r
    exact r
theorem unpack_items_list {t : Addr} {items : Array Value} {Q : List Value → Shared → Prop} (hh : A.handled = none) (ht : s.heap.IsList t items)
    (hQ : ∀ h', Heap.ExtBut s.heap.objs.size s.heap h' → Q items.toList { s with heap := h' }) : wpAny (model prog w) A (unpackItems (.ref t) items.size none) Q E s := by
  have ne' : t ≠ s.heap.objs.size := by obtain ⟨o, ho, _⟩ := ht; exact Nat.ne_of_lt (Heap.lt_size ho)
  unfold unpackItems
  refine wpAny_bind ?_
  unfold notIterableAtAll
  refine wpAny_bind (wpAny_specialOf ht.typeIs PySem.slot_list_iter.lookup (wpAny_pure ?_))
  simp only [Bool.false_eq_true, if_false]
  refine wpAny_bind (wpAny_holding (wpAny_pyIter_list ht ?_))
  have new : (s.heap.push { cls := .type "list_iterator", data := .fields #[.ref t, .int 0 0] }).IsListIter s.heap.objs.size t 0 := ⟨_, Heap.get?_push_size _ rfl, rfl, rfl⟩
  refine wpAny_bind (wpAny_holding (draw_list ne' items.size 0 _ _ new (ht.at fun o e => Heap.get?_push_of_some _ e) (by omega) fun h1 hit1 s1 => ?_))
  have all : List.take items.size (List.drop 0 items.toList) = items.toList := by
    rw [List.drop_zero]; exact List.take_of_length_le (by simp)
  rw [all, if_neg (by simp)]
  have ht1 : h1.IsList t items := (ht.at fun o e => Heap.get?_push_of_some _ e).extBut s1.extBut ne'
  refine wpAny_bind (wpAny_holding (wpAny_pyNext_list_end hh hit1 ht1 (by simp) fun h2 x2 => ?_))
  simp only [Option.isSome_none, Bool.false_eq_true, if_false]
  exact wpAny_pure (hQ h2 fun b o hb e => x2 b o hb (s1.extBut b o hb (Heap.get?_push_of_some _ e)))
end
section
variable {X : Cx} {a : Expr} {es : List Expr} {ws : List Nat} {pos : Pos}
def gLst (K : PySem.W.Frag) (n : Nat) (t : TGs) : TG := fun v σ H Q => ∃ a xs, v = .ref a ∧ SqL K H a xs ∧ xs.length = n ∧ t xs σ H Q
theorem pg_lst {k : Nat} {t : TGs} {n : Nat} (hc : X.calm = true) (h : PGs X es t)
    (hn : (assignEach es X.env).length = n := by rfl) (hst : (assignEach es X.env).findIdx? (·.1) = none := by rfl) : PG X (.Tuple es k pos) (gLst X.K n t) := by
  refine ⟨fun pins s σ H v u Q I r hw => ?_⟩
  obtain ⟨a, xs, e1, hq, hl, hw⟩ := hw
  subst e1
  cases r
  obtain ⟨its, rv, ht, hz⟩ := I.list hq
  rw [PyProof.Rows.assign_Tuple]
  refine wpAny_bind (wpAny_standAt ?_)
  unfold unpack
  rw [hn, hst]
  have e : n = its.toArray.size := by simp [← hl, rv.length]
  rw [e]
  refine wpAny_bind (wpAny_holding (unpack_items_list (I.ok.hd hc) ht.isList fun h' hx => ?_))
  have I1 : Inv X pins σ H { s with heap := h' } := I.kept (t' := s.toks) fun b o e => hx b o (Nat.ne_of_lt (Heap.lt_size e)) e
  exact h.run pins _ σ H xs _ Q I1 (by simpa using rv) hw
def tgLst (n : Nat) (h : DTGs) : DTG := fun d ρ q => match d with
  | .list ds => ds.length = n ∧ h ds ρ q
  | _ => False
theorem dg_lst {h : DTGs} {n kk : Nat} (hc : X.calm = true) (h1 : DGs X es ws h) (hn : (assignEach es X.env).length = n := by rfl) (hst : (assignEach es X.env).findIdx? (·.1) = none := by rfl) : DG1 X (.Tuple es kk pos) ws (tgLst n h) := PG.imp (pg_lst hc h1 hn hst) fun v σ H Q ⟨B, ρ, d, q, R, is, t, k⟩ => by
  unfold tgLst at t
  split at t
  · obtain ⟨a, xs, e1, e2, e3⟩ := is.lst'
    exact ⟨a, xs, e1, SqL.of e2, by rw [e3.length]; exact t.1, B, ρ, _, q, R, e3, t.2, k⟩
  · exact t.elim
end

section
variable {X : Cx} {a : Expr} {es : List Expr} {ws : List Nat} {pos : Pos}
theorem PG.or {e : Expr} {t1 t2 : TG} (h1 : PG X e t1) (h2 : PG X e t2) : PG X e (fun v σ H Q => t1 v σ H Q ∨ t2 v σ H Q) := ⟨fun pins s σ H v u Q I r hq => hq.elim (h1.run pins s σ H v u Q I r) (h2.run pins s σ H v u Q I r)⟩
/-- a, b = a tuple or a list -/
def tgSeq (n : Nat) (h : DTGs) : DTG := fun d ρ q => match d with
  | .list ds => ds.length = n ∧ h ds ρ q
  | .tuple ds => ds.length = n ∧ h ds ρ q
  | _ => False
theorem dg_seq {h : DTGs} {n kk : Nat} (hc : X.calm = true) (h1 : DGs X es ws h) (hn : (assignEach es X.env).length = n := by rfl) (hst : (assignEach es X.env).findIdx? (·.1) = none := by rfl) : DG1 X (.Tuple es kk pos) ws (tgSeq n h) := PG.imp (PG.or (dg_tup hc h1 hn hst) (dg_lst hc h1 hn hst)) fun v σ H Q ⟨B, ρ, d, q, R, is, t, k⟩ => by
  unfold tgSeq at t
  split at t
  · exact .inr ⟨B, ρ, _, q, R, is, t, k⟩
  · exact .inl ⟨B, ρ, _, q, R, is, t, k⟩
  · exact t.elim
end

/-! ### dict(zip(xs, ys)) -/
section
variable {X : Cx} {e1 e2 : Expr} {ta : TA} {t : DTA} {p p2 pos pos2 : Pos}
def tDZip (K : PySem.W.Frag) (ta : TA) : TE := fun σ H Q => ta σ H fun vs H1 => ∃ (a b : Addr) (ks : List Key) (ys : List V), vs = [.ref a, .ref b] ∧ SqL K H1 a (ks.map kV) ∧ SqL K H1 b ys ∧ ks.length ≤ sizeLine ∧ ∀ p, H1 p = none → Q (.ref p) (upd H1 p (.dK (mergeK [] (ks.zip ys))))
theorem kv_zip : ∀ {ks : List Key} {us : List Value} {ys : List V} {ws : List Value}, Vals (ks.map kV) us → Vals ys ws → KV (ks.zip ys) (ks.zip ws)
  | [], _, _, _, _, _ => .nil
  | k :: ks, us, [], ws, _, r => by
    cases r
    exact .nil
  | k :: ks, us, y :: ys, ws, q, r => by
    cases r with
    | cons r1 r2 =>
      cases q with
      | cons q1 q2 => exact .cons ⟨rfl, r1⟩ (kv_zip q2 r2)
theorem kv_at {P : Program} {w : World} {ks : List Key} {us ws : List Value} (q : Vals (ks.map kV) us) {i : Nat} {key v : Value} (h1 : us[i]? = some key) (h2 : ws[i]? = some v) : ∃ k, (ks.zip ws)[i]? = some (k, v) ∧ (mixKind P w).is k key = true := by
  obtain ⟨x, h3, r⟩ := rel_get q h1
  rw [List.getElem?_map] at h3
  cases e : ks[i]? with
  | none => rw [e] at h3; cases h3
  | some k =>
    rw [e] at h3
    cases h3
    refine ⟨k, ?_, kV_is r⟩
    rw [List.zip, List.getElem?_zipWith, e, h2]
theorem pe_dzip (hg : Gl X "dict") (hm : X.mg "dict" = none) (hg2 : Gl X "zip") (hm2 : X.mg "zip" = none) (hc : X.calm = true) (ha : PA X [e1, e2] ta)
    (hs : starEach [.Call (.Name "zip" p2) [e1, e2] [] pos2] X.env = (false, eval (.Call (.Name "zip" p2) [e1, e2] [] pos2) X.env) :: starEach [] X.env := by rfl) (hpl : (backTo pos (starEach [] X.env)).any (·.1) = false := by rfl)
    (hs2 : starEach [e1, e2] X.env = (false, eval e1 X.env) :: starEach [e2] X.env := by rfl) (hpl2 : (backTo pos2 (starEach [e2] X.env)).any (·.1) = false := by rfl) :
    PE X (.Call (.Name "dict" p) [.Call (.Name "zip" p2) [e1, e2] [] pos2] [] pos) (tDZip X.K ta) := by
  refine ⟨fun pins s σ H Q I h => ?_⟩
  refine Call_ (ld_blt I hg hm PyProof.Rows.boot_dict (PyProof.Rows.callWith_type1 (PyProof.Rows.spliced_more ?_ hs) hs hpl))
  refine Call_ (ld_blt I hg2 hm2 PyProof.Rows.boot_zip (PyProof.Rows.callWith_type1 (thn (ha.run pos2 pins s σ H _ I h) fun us s1 ⟨vs, H1, I1, r1, q1⟩ => ?_) hs2 hpl2))
  obtain ⟨a, b, ks, ys, ex, hq1, hq2, hl, hQ⟩ := q1
  subst ex
  obtain ⟨v1, v2, eu, r2, r3⟩ : ∃ v1 v2, us = [v1, v2] ∧ RelV (.ref a) v1 ∧ RelV (.ref b) v2 := by
    cases r1 with
    | cons x y =>
      cases y with
      | cons x' y' =>
        cases y'
        exact ⟨_, _, rfl, x, x'⟩
  subst eu
  cases r2
  cases r3
  obtain ⟨its, rv, p1, _⟩ := I1.list hq1
  obtain ⟨its2, rv2, p2, _⟩ := I1.list hq2
  refine call_zip_2 p1.isList p2.isList fun h' hz hTI hTO h1 h2 hsz hk => PyProof.Rows.spliced_none ?_
  have I2 : Inv X pins σ H1 { s1 with heap := h' } := I1.kept (t' := s1.toks) hk
  have n1 : its.length = ks.length := by rw [← rv.length, List.length_map]
  refine PySem.call_dict_pairs (knd := mixKind X.prog X.w) (kvs := ks.zip its2) (PairArg.zip _ _ _ _ _ _ _ (PySem.W.ktu_apart s1.heap.objs.size a b p1.lt p2.lt) its.toArray its2.toArray) (I.ok.hd hc)
    ⟨hz, hTI, ⟨_, _, hTO⟩, h1, h2, p1.isList.at fun o e => hk _ o e, p2.isList.at fun o e => hk _ o e⟩ ⟨?_, fun i key v ⟨g1, g2⟩ => kv_at rv (by simpa using g1) (by simpa using g2)⟩ ?_ fun h'' tk dd k2 => ?_
  · simp [n1]
  · have : min its.toArray.size its2.toArray.size ≤ ks.length := by simp; omega
    omega
  · have lt : s1.heap.objs.size ≤ h'.objs.size := by rw [hsz]; omega
    have kk : ∀ c o, s1.heap.get? c = some o → h''.get? c = some o := fun c o e => by
      refine k2 c o (fun hm => ?_) (hk c o e)
      have hc := Heap.lt_size e
      simp only [List.mem_cons, List.not_mem_nil, or_false] at hm
      have : s1.heap.objs.size ≤ c := by
        rcases hm with rfl | rfl | rfl | rfl <;> first | exact Nat.le_add_right _ _ | exact Nat.le_refl _
      exact absurd hc (Nat.not_lt.mpr this)
    have hn : H1 h'.objs.size = none := I1.hok.fresh lt
    have rel := (kv_zip rv rv2).merge (kvs := []) (vs := []) .nil
    have zz : (mergeK [] (ks.zip ys)).length ≤ sizeLine := by
      have h1 := length_mergeK (ks.zip ys) []
      rw [List.length_nil, List.length_zip] at h1
      omega
    refine ⟨.ref h'.objs.size, _, I1.laid (a := h'.objs.size) (o := .dK (mergeK [] (ks.zip ys))) (t' := tk) kk lt ⟨zz, ?_, _, rel, dd⟩, rfl, hQ _ hn⟩
    exact beq_eq_false_iff_ne.mpr (Ne.symm (Nat.ne_of_lt (Nat.lt_of_lt_of_le I1.big lt)))
/-- the keys of a list -/
def keysD : List PyData → Bool
  | [] => true
  | d :: ds => isKey d && keysD ds
theorem keys_is {O : Addr → Prop} {H : Hp} : ∀ {xs : List V} {ds : List PyData}, IsAll O H xs ds → keysD ds = true → ∃ ks : List Key, xs = ks.map kV ∧ ds = ks.map kD
  | _, _, .nil, _ => ⟨[], rfl, rfl⟩
  | _, _, .cons h t, e => by
    simp only [keysD, Bool.and_eq_true] at e
    obtain ⟨k, rfl, rfl⟩ := key_of_is (.inl h) e.1
    obtain ⟨ks, rfl, rfl⟩ := keys_is t e.2
    exact ⟨k :: ks, rfl, rfl⟩
theorem IsK.zip {O : Addr → Prop} {H : Hp} : ∀ {ks : List Key} {ys : List V} {es : List PyData}, IsAll O H ys es → IsK O H (ks.zip ys) ((ks.map kD).zip es)
  | [], _, _, _ => .nilK
  | _ :: _, _, _, .nil => .nilK
  | _ :: _, _, _, .cons h t => .consK h (IsK.zip t)
theorem IsK.merge {O : Addr → Prop} {H : Hp} : ∀ {more : List (Key × V)} {ms es : List (PyData × PyData)} {kvs : List (Key × V)}, IsK O H more ms → IsK O H kvs es → IsK O H (mergeK kvs more) (dMerge es ms)
  | _, _, _, _, .nilK, h => h
  | (k, v) :: r, (_, d) :: ms, es, kvs, .consK i t, h => IsK.merge (more := r) (ms := ms) (es := dPutD es (kD k) d) (kvs := putK kvs k v) t (h.put k i)
/-- dict(zip(xs, ys)) -/
def fDZip (t : DTA) : DTF := fun ρ q => t ρ fun os ρ1 => tkAll os ρ1 fun ds ρ2 => match ds with
  | [.list xs, .list ys] => keysD xs = true ∧ xs.length ≤ 16777216 ∧ q (.dict (dMerge [] (xs.zip ys))) ρ2
  | _ => False
theorem dfr_dzip (hg : Gl X "dict") (hm : X.mg "dict" = none) (hg2 : Gl X "zip") (hm2 : X.mg "zip" = none) (hc : X.calm = true) (ha : DA X [e1, e2] t)
    (hs : starEach [.Call (.Name "zip" p2) [e1, e2] [] pos2] X.env = (false, eval (.Call (.Name "zip" p2) [e1, e2] [] pos2) X.env) :: starEach [] X.env := by rfl) (hpl : (backTo pos (starEach [] X.env)).any (·.1) = false := by rfl)
    (hs2 : starEach [e1, e2] X.env = (false, eval e1 X.env) :: starEach [e2] X.env := by rfl) (hpl2 : (backTo pos2 (starEach [e2] X.env)).any (·.1) = false := by rfl) :
    DFr X (.Call (.Name "dict" p) [.Call (.Name "zip" p2) [e1, e2] [] pos2] [] pos) (fDZip t) := PE.imp (pe_dzip hg hm hg2 hm2 hc ha hs hpl hs2 hpl2) fun σ H Q ⟨B, ρ, q, R, t, k⟩ => by
  refine ⟨B, ρ, _, R, t, fun os ρ1 vs H1 t1 m1 R1 i1 => ?_⟩
  obtain ⟨ds, ρ2, h2, is, R2, m2⟩ := OAll.tk R1 i1 t1
  split at h2
  · obtain ⟨kd, hl, h3⟩ := h2
    obtain ⟨v1, v2, rfl, j1, j2⟩ := isAll2 is
    obtain ⟨a, xs, rfl, ea, alla⟩ := j1.lst'
    obtain ⟨b, ys, rfl, eb, allb⟩ := j2.lst'
    obtain ⟨ks, rfl, rfl⟩ := keys_is alla kd
    refine ⟨a, b, ks, ys, rfl, SqL.of ea, SqL.of eb, by rw [sizeLine_eq]; simpa using hl, fun p hp => ?_⟩
    obtain ⟨R3, tp, m3⟩ := R2.fresh hp (.dK ((IsK.zip allb).merge .nilK))
    obtain ⟨f1, f2⟩ := R2.entry hp
    exact k _ _ _ _ h3 f1 f2 ((m1.trans m2).trans m3) R3 tp
  · exact h2.elim
end
end DL
namespace DL
open PySem PySem.Spec PyProof.Rows L2

/-! ### data as the kit reads it -/
theorem is_reads {P : Program} {w : World} {O : Addr → Prop} {H : Hp} {h : Heap} (ok : HOk P w H h) {v : V} {d : PyData} (is : Is O H v d) : ∀ u : Value, d.hasDict = false → RelV v u → ∃ as, Reads h u d as := by
  induction is using Is.rec (motive_2 := fun xs ds _ => ∀ us : List Value, PyData.hasDictAll ds = false → Vals xs us → ∃ as, ReadsAll h us ds as) (motive_3 := fun _ _ _ => True) (motive_4 := fun _ _ _ => True) with
  | non => intro u _ r; obtain rfl : u = Value.none := r; exact ⟨_, .none⟩
  | bl b => intro u _ r; obtain rfl : u = Value.bool b := r; exact ⟨_, .bool b⟩
  | int i => intro u _ r; obtain ⟨t, rfl⟩ := r; exact ⟨_, .int i t⟩
  | str x => intro u _ r; obtain ⟨t, rfl⟩ := r; exact ⟨_, .str x t⟩
  | lst n e all ih =>
    intro u hd r
    cases r
    obtain ⟨z, its, m, rv, q⟩ := ok _ _ e
    obtain ⟨as, ra⟩ := ih its (by simpa only [PyData.hasDict] using hd) rv
    exact ⟨_, .list q rfl rfl ra⟩
  | tup e all ih =>
    intro u hd r
    cases r
    obtain ⟨z, its, rv, o, q, c, m, dt⟩ := (show ObjOk P w H h _ (.tup _) from ok _ _ e)
    obtain ⟨as, ra⟩ := ih its (by simpa only [PyData.hasDict] using hd) rv
    exact ⟨_, .tuple q c dt ra⟩
  | dK n r all ih => intro u hd _; simp [PyData.hasDict] at hd
  | dT n r all ih => intro u hd _; simp [PyData.hasDict] at hd
  | nil =>
    first
      | exact ⟨_, .nil⟩
      | (rename_i r; cases r; exact ⟨_, .nil⟩)
      | (intro us _ r; cases r; exact ⟨_, .nil⟩)
  | cons a b iha ihb =>
    rename_i us hd r
    simp only [PyData.hasDictAll, Bool.or_eq_false_iff] at hd
    cases r with
    | cons r1 r2 =>
      obtain ⟨as, ra⟩ := iha _ hd.1 r1
      obtain ⟨bs, rb⟩ := ihb _ hd.2 r2
      exact ⟨_, .cons ra rb⟩
  | nilK => trivial
  | consK _ _ _ _ => trivial
  | nilT => trivial
  | consT _ _ _ _ => trivial

/-! ### repr -/
def rReprD : List V → Hp → VK → Prop := fun xs H Q => ∃ v d, xs = [v] ∧ RdX H v d ∧ d.showable = true ∧ d.hasDict = false ∧ d.depth ≤ 60 ∧ d.shown.length ≤ sizeLine ∧ Q (.str d.shown) H
theorem call_reprD {X : Cx} (hg0 : X.A.guards = some []) (hu : X.A.units + 64 < cLine) : CallR X (.builtin "repr") rReprD := by
  intro pins s σ H xs us Q I rs h
  obtain ⟨v, d, rfl, ⟨O, is⟩, hs, hd, hp, hz, q⟩ := h
  obtain ⟨u, rfl, r⟩ : ∃ u, us = [u] ∧ RelV v u := by
    cases rs with
    | cons a b => cases b; exact ⟨_, rfl, a⟩
  obtain ⟨as, rd⟩ := is_reads I.hok is u hd r
  have fin : ∀ (d : PyData) (h' : Heap) (t : Tok) (tk : Nat), (∀ b o, s.heap.get? b = some o → h'.get? b = some o) → Q (.str d.shown) H → EP X pins σ Q (.str d.shown t) { s with heap := h', toks := tk } := fun d h' t tk k q => ⟨.str d.shown, H, I.kept k, ⟨t, rfl⟩, q⟩
  have fin0 : ∀ (z : Str) (t : Tok), Q (.str z) H → EP X pins σ Q (.str z t) { s with toks := s.toks + 1 } := fun z t q => ⟨.str z, H, I.tok _, ⟨t, rfl⟩, q⟩
  cases rd with
  | none =>
    simp only [PyData.shown] at hz q
    exact P.repr_of_none (fin0 _ _ q)
  | bool b =>
    simp only [PyData.shown] at hz q
    exact P.repr_of_bool (fin0 _ _ q)
  | int i t =>
    simp only [PyData.shown] at hz q
    exact P.repr_of_int (by simpa [PyData.showable] using hs) (fin0 _ _ q)
  | str x t =>
    simp only [PyData.shown] at hz q
    exact P.repr_of_str (fin0 _ _ q) hz
  | list h1 h2 h3 h4 => exact repr_of_reads' (.list h1 h2 h3 h4) hs (PyData.noDict_hsm hd) hg0 (by omega) (fun _ _ e => e) (fun h' t tk k => fin _ h' t tk k q) hz
  | tuple h1 h2 h3 h4 => exact repr_of_reads' (.tuple h1 h2 h3 h4) hs (PyData.noDict_hsm hd) hg0 (by omega) (fun _ _ e => e) (fun h' t tk k => fin _ h' t tk k q) hz
  | dict h1 h2 h3 h4 h5 => simp [PyData.hasDict] at hd
/-- it may be shown -/
def Shows (d : PyData) : Prop := d.showable = true ∧ d.hasDict = false ∧ d.depth ≤ 60 ∧ d.shown.length ≤ 16777216
section
variable {X : Cx} {a b c e : Expr} {es : List Expr} {ta tb tc : DT} {pos : Pos} {x : Str} {p : Pos}
def dRepr (ta : DT) : DT := fun ρ q => ta ρ fun o ρ1 => o.rdx ρ1 fun d => Shows d ∧ q (.vl (.str d.shown)) ρ1
theorem do_repr (hg0 : X.A.guards = some []) (hu : X.A.units + 64 < cLine) (hg : Gl X "repr") (hm : X.mg "repr" = none) (ha : DO X e ta) (he : starEach [e] X.env = (false, eval e X.env) :: starEach [] X.env := by rfl) :
    DO X (.Call (.Name "repr" p) [e] [] pos) (dRepr ta) := PE.imp (pe_callB (call_reprD hg0 hu) hg hm (by decide +kernel) (pa_cons ha pa_nil he) (by decide) (by decide) he) fun σ H Q ⟨B, ρ, q, R, t, k⟩ => by
  refine ⟨B, ρ, _, R, t, fun o ρ1 v H1 t1 m1 R1 i1 => ?_⟩
  obtain ⟨d, ⟨⟨s1, s2, s3, s4⟩, h2⟩, rd⟩ := i1.rdx R1 t1
  exact ⟨v, d, rfl, rd, s1, s2, s3, by rw [sizeLine_eq]; exact s4, k _ _ _ _ h2 m1 R1 (.str _)⟩
end

/-! ### defs that ask that no repr runs -/
structure FnG (P : Program) (w : World) (K : PySem.W.Frag) (mg : Str → Option Value) (base : Heap) (k : Nat) (f : Addr) (fd : FuncData) (ps : List Str) (sp : Sp) : Prop where
  len : ∀ vs H Q E, sp vs H Q E → vs.length = ps.length
  run : ∀ (A : Around) (outer : List Env) (s : Shared) (H : Hp) (args : Args) (us : List Value) (vs : List V) (Q : VK) (E : XK), A.guards = some [] → Room k A → Env0 P w K mg base A outer s H →
    BindsTo s fd args (ps.zip us) → Vals vs us → sp vs H Q E → codeAny (model P w) A (.call (.ref f) args) (CR CX0 outer P w H s Q E) s
section
variable {P : Program} {w : World} {K : PySem.W.Frag} {mg : Str → Option Value} {base : Heap} {x qual : Str} {params : Arguments} {body : List Stmt} {scope : Scope} {f : Addr} {fd : FuncData}
theorem FnOk.toG {k : Nat} {ps : List Str} {sp : Sp} (F : FnOk P w K mg base CX0 k f fd ps sp) : FnG P w K mg base k f fd ps sp :=
  ⟨F.len, fun A outer s H args us vs Q E _ hr e0 hb hv hs => F.run A outer s H args us vs Q E hr e0 hb hv hs⟩
theorem fnG_of {N ps : List Str} {k : Nat} {sp : Sp} (Fn : FunD K x qual params body scope [] [] f fd) (S : FnScope N ps scope) (len : ∀ vs H Q E, sp vs H Q E → vs.length = ps.length)
    (hb : ∀ (cdv : Value) (A : Around) (outer : List Env) (s : Shared) (H : Hp) (vs : List V) (Q : VK) (E : XK), (A.deeper (envOfC qual scope s.heap.objs.size f cdv)).guards = some [] → Room k (A.deeper (envOfC qual scope s.heap.objs.size f cdv)) → sp vs H Q E →
      ∃ t, PSs (cxOf CX0 P w K mg base N qual scope f cdv A outer s H E) body t ∧ t { nx := fun _ H' => Q .non H', rt := Q } (L2.start N vs) H) : FnG P w K mg base (k + 1) f fd ps sp := by
  obtain ⟨oc, od, dV, kV, doc, pm, an, cdv, ct, osl, rfl, lk, code, _, _⟩ := Fn.ex
  refine ⟨len, fun A outer s H args us vs Q E gd room e0 bd rel want => ?_⟩
  have vl := len _ _ _ _ want
  have there : ∀ b o, base.get? b = some o → s.heap.get? b = some o := fun b o e => (e0.bs b o e).1
  have inK : K.In s.heap := e0.mod.kin.keeps there
  have names : ∀ y ∈ ps.zip us, scope.names.lookup y.1 = some .local ∨ (scope.names.lookup y.1 = some .cell ∧ ((cellsFrom (s.heap.objs.size + 1) scope.names []).lookup y.1).isSome = true) := by
    rintro ⟨y, v⟩ hy
    refine (S.par y (List.of_mem_zip hy).1).imp id fun q => ⟨q, ?_⟩
    exact PySem.W.cellsFrom_some _ _ _ (.inl q)
  refine codeAny_call_function room.depth (inK _ _ lk) rfl S.co S.gen rfl (PySem.W.codeRec_of inK code) (bd _ _ _ _ ?_)
  refine wpAny_newFunctionEnv_cells S.kind names fun env ee s1 st => ?_
  subst ee
  refine ⟨(e0.mod.nolimit.keeps there).keeps st.toInCall.keep, codeAny_func ?_⟩
  have I := inv_start (CX := CX0) (P := P) (w := w) (K := K) (mg := mg) (base := base) (E := E) S room.hd e0 vl rel st
  obtain ⟨t, ht, start⟩ := hb cdv A outer s H vs Q E gd (room.deeper _) want
  refine wpAny_mono (ht.run [] s1 (L2.start N vs) H _ I start) (fun fl s' z => ?_) fun e s' z => z
  cases fl with
  | ret u =>
    obtain ⟨v, σ', H', J, rv, q⟩ := z
    exact (⟨v, H', J.os, J.bare, J.base, J.hok, rv, q⟩ : CE outer P w H s Q u s')
  | next =>
    obtain ⟨σ', H', J, q⟩ := z
    exact (⟨.non, H', J.os, J.bare, J.base, J.hok, rfl, q⟩ : CE outer P w H s Q Value.none s')
  | brk => exact (let ⟨_, _, _, q⟩ := z; False.elim q)
  | cont => exact (let ⟨_, _, _, q⟩ := z; False.elim q)
theorem okDG {N ps : List Str} {k n : Nat} {m : Bool} {F : DF} {t : DTS} (Fn : FunD K x qual params body scope [] [] f fd) (S : FnScope N ps scope) (hn : ps.length = n)
    (hb : ∀ (cdv : Value) (A : Around) (outer : List Env) (s : Shared) (H : Hp) (E : XK), (A.deeper (envOfC qual scope s.heap.objs.size f cdv)).guards = some [] → Room k (A.deeper (envOfC qual scope s.heap.objs.size f cdv)) →
      DSs (cxOf CX0 P w K mg base N qual scope f cdv A outer s H E).nox body t)
    (hF : ∀ ds q a, ds.length = n → F ds q → t (endsD m a q) (startD m a N.length ds)) : FnG P w K mg base (k + 1) f fd ps (spD m n F) :=
  fnG_of Fn S (fun vs H Q E h => h.1.trans hn.symm) fun cdv A outer s H vs Q E gd hr want => ⟨upS t, PSs.nox (hb cdv A outer s H E gd hr), spD_up S hn hF want⟩
end
section
variable {X : Cx} {a b c e : Expr} {es : List Expr} {ta tb tc : DT} {t : DTA} {pos : Pos} {x : Str} {p : Pos} {k n : Nat} {f : Addr} {fd : FuncData} {ps : List Str} {F : DF}
theorem pe_callG {sp : Sp} {tr : TA} (F : FnG X.prog X.w X.K X.mg X.base k f fd ps sp) (gd : X.A.guards = some []) (hr : Room k X.A) (hg : Gl X x) (hm : X.mg x = some (.ref f)) (hk : PySem.W.keepIn X.K (.ref f) = true) (hb : Binds X.K fd ps [])
    (ha : PA X (e :: es) tr) (hdb : (x == ("__debug__" : Str)) = false) (he : starEach (e :: es) X.env = (false, eval e X.env) :: starEach es X.env) (hpl : (backTo pos (starEach es X.env)).any (·.1) = false) :
    PE X (.Call (.Name x p) (e :: es) [] pos) (tCall sp [] E0 tr) := by
  refine ⟨fun pins s σ H Q I h => wpAny_Call_Name_kw (ld_glob I hg hm ?_ hdb)⟩
  refine PySem.W.callWith_K (h₀ := X.base) I.ok.mod.kin hk (thn (ha.run pos pins s σ H _ I h) fun us s1 ⟨vs, H1, J, rel, want⟩ => ⟨J.kIn, ?_⟩) he hpl
  have hl : us.length = ps.length := by
    have := F.len _ _ _ _ want
    rw [List.append_nil] at this
    rw [← rel.length, this]
  dsimp only at want
  rw [List.append_nil] at want
  have bd := hb s1 us J.kIn (by rw [List.append_nil]; exact hl)
  rw [List.append_nil] at bd
  refine wpAny_call (codeAny_mono (F.run X.A X.stack s1 H1 ⟨us, []⟩ us vs Q E0 gd hr J.env0 bd rel want) fun r s' z => ?_)
  match r, z with
  | .error e, z => exact pass0 pins σ H1 s1 e s' J z
  | .ok (.ret u), z => exact J.after z
  | .ok .next, z => exact False.elim z
  | .ok .brk, z => exact False.elim z
  | .ok .cont, z => exact False.elim z
theorem do_callG (G : FnG X.prog X.w X.K X.mg X.base k f fd ps (spD false n F)) (gd : X.A.guards = some []) (hr : Room k X.A) (hg : Gl X x) (hm : X.mg x = some (.ref f)) (hk : PySem.W.keepIn X.K (.ref f) = true) (hb : Binds X.K fd ps [])
    (ha : DA X (e :: es) t) (hdb : (x == ("__debug__" : Str)) = false := by decide) (he : starEach (e :: es) X.env = (false, eval e X.env) :: starEach es X.env := by rfl) (hpl : (backTo pos (starEach es X.env)).any (·.1) = false := by rfl) :
    DO X (.Call (.Name x p) (e :: es) [] pos) (dCall n F t) := PE.imp (pe_callG G gd hr hg hm hk hb ha hdb he hpl) fun _ _ _ h => upCall h
theorem do_callMG (G : FnG X.prog X.w X.K X.mg X.base k f fd ps (spD true n F)) (gd : X.A.guards = some []) (hr : Room k X.A) (hg : Gl X x) (hm : X.mg x = some (.ref f)) (hk : PySem.W.keepIn X.K (.ref f) = true) (hb : Binds X.K fd ps [])
    (ha : DA X (e :: es) t) (hdb : (x == ("__debug__" : Str)) = false := by decide) (he : starEach (e :: es) X.env = (false, eval e X.env) :: starEach es X.env := by rfl) (hpl : (backTo pos (starEach es X.env)).any (·.1) = false := by rfl) :
    DO X (.Call (.Name x p) (e :: es) [] pos) (dCallM n F t) := PE.imp (pe_callG G gd hr hg hm hk hb ha hdb he hpl) fun _ _ _ h => upCallM h
end

/-! ### f(b = .., a = ..): two keywords, turned round; f(a = ..) -/
section
variable {X : Cx} {e : Expr} {ta : DT} {t : DTA} {kws : List Keyword} {pos kpos p : Pos} {nm : Option Str} {x x1 x2 : Str} {k : Nat} {f : Addr} {fd : FuncData} {F : DF}
abbrev DK (X : Cx) (kws : List Keyword) (t : DTA) : Prop := PK X kws (upA t)
theorem dk_nil : DK X [] dNil := ⟨fun pos pins s σ H Q I ⟨B, ρ, q, R, t, k⟩ => pk_nil.run pos pins s σ H Q I (k _ _ _ _ t .refl R .nil)⟩
theorem PK.imp {t t' : TA} (h : PK X kws t) (i : ∀ σ H Q, t' σ H Q → t σ H Q) : PK X kws t' := ⟨fun pos pins s σ H Q I hq => h.run pos pins s σ H Q I (i σ H Q hq)⟩
theorem dk_cons (ha : DO X e ta) (hr : DK X kws t) : DK X (⟨nm, e, kpos⟩ :: kws) (dCons ta t) := PK.imp (pk_cons ha hr) fun σ H Q ⟨B, ρ, q, R, t, k⟩ => by
  refine ⟨B, ρ, _, R, t, fun o ρ1 v H1 t1 m1 R1 i1 => ⟨B, ρ1, _, R1, t1, fun os ρ2 vs H2 t2 m2 R2 i2 => ?_⟩⟩
  exact k _ _ _ _ t2 (m1.trans m2) R2 (.cons (i1.adv m2) i2)
theorem pe_kws {sp : Sp} {tr : TA} {ps ks : List Str} {g : List Value → List Value} {gV : List V → List V} (G : FnOk X.prog X.w X.K X.mg X.base CX0 k f fd ps sp) (hr : Room k X.A) (hg : Gl X x) (hm : X.mg x = some (.ref f)) (hk : PySem.W.keepIn X.K (.ref f) = true)
    (hb : KBn X.K fd ps 0 ks (fun _ ws => g ws) (fun _ zs => gV zs)) (hkw : PK X kws tr) (hall : (backToKw pos (keywordEach kws X.env)).all (·.1.isSome) = true) (hks : (backToKw pos (keywordEach kws X.env)).filterMap (·.1) = ks)
    (hdb : (x == ("__debug__" : Str)) = false) (hpl : ((backTo pos (starEach [] X.env)).any (·.1) || (backToKw pos (keywordEach kws X.env)).any (·.1.isNone)) = false) :
    PE X (.Call (.Name x p) [] kws pos) (fun σ H Q => tr σ H fun zs H1 => zs.length = ks.length ∧ sp (gV zs) H1 Q E0) := by
  refine ⟨fun pins s σ H Q I h => wpAny_Call_Name_kw (ld_glob I hg hm ?_ hdb)⟩
  refine PySem.W.callWith_KW0 (h₀ := X.base) I.ok.mod.kin hk hall (thn (hkw.run pos pins s σ H _ I h) fun ws s1 ⟨zs, H1, J, rel, zl, want⟩ => ⟨J.kIn, ?_⟩) hpl
  rw [hks]
  exact run_fnN (us := []) (vs := []) G hr hb pass0 J .nil rel rfl zl want
/-- the keywords' data, turned round -/
def dKw2 (F : DF) (t : DTA) : DT := fun ρ q => t ρ fun os ρ1 => os.length = 2 ∧ rdAllX os ρ1 fun ds => F ds.reverse fun d _ => (flat d = true ∨ noOwn ρ1 os = true) ∧ q (.vl d) ρ1
theorem IsAll.rev {O : Addr → Prop} {H : Hp} {vs : List V} {ds : List PyData} (h : IsAll O H vs ds) : IsAll O H vs.reverse ds.reverse := h.reverse
theorem do_kw2 {ps : List Str} (G : FnOk X.prog X.w X.K X.mg X.base CX0 k f fd ps (spD false 2 F)) (hr : Room k X.A) (hg : Gl X x) (hm : X.mg x = some (.ref f)) (hk : PySem.W.keepIn X.K (.ref f) = true)
    (hb : KBn X.K fd ps 0 [x1, x2] (fun _ ws => ws.reverse) (fun _ zs => zs.reverse)) (hkw : DK X kws t) (hall : (backToKw pos (keywordEach kws X.env)).all (·.1.isSome) = true := by rfl) (hks : (backToKw pos (keywordEach kws X.env)).filterMap (·.1) = [x1, x2] := by rfl)
    (hdb : (x == ("__debug__" : Str)) = false := by decide) (hpl : ((backTo pos (starEach [] X.env)).any (·.1) || (backToKw pos (keywordEach kws X.env)).any (·.1.isNone)) = false := by rfl) :
    DO X (.Call (.Name x p) [] kws pos) (dKw2 F t) := PE.imp (pe_kws G hr hg hm hk hb hkw hall hks hdb hpl) fun σ H Q ⟨B, ρ, q, R, t, k⟩ => by
  refine ⟨B, ρ, _, R, t, fun os ρ1 vs H1 t1 m1 R1 i1 => ?_⟩
  obtain ⟨hl, t1⟩ := t1
  obtain ⟨ds, h1, is⟩ := OAll.args (P := ownArgs ρ1 os) R1 (fun o ho b z => ⟨o, ho, z⟩) i1 t1
  refine ⟨(Paired.length i1).trans hl, by rw [List.length_reverse, Paired.length i1, hl], fun b => OW B ρ1 b ∧ ¬ ownArgs ρ1 os b, ds.reverse, _, fun a z => R1.ow z.1, h1, ?_⟩
  rw [if_neg Bool.false_ne_true]
  refine ⟨is.reverse, fun d e v H' hq hs hv => k _ _ _ _ hq.2 (m1.trans (.same hs)) (R1.same hs) ?_⟩
  rcases hq.1 with hf | hf
  · exact hv.flat_any hf
  · exact hv.mono (Adv.sub fun b z => ⟨z, noOwn_not hf b⟩)
theorem rel_rev : ∀ {vs : List V} {us : List Value}, Vals vs us → Vals vs.reverse us.reverse
  | _, _, .nil => .nil
  | _, _, .cons r t => by
    rw [List.reverse_cons, List.reverse_cons]
    exact (rel_rev t).append (.cons r .nil)
theorem kbinds2 {K : PySem.W.Frag} {qual : Str} {params : Arguments} {body : List Stmt} {scope : Scope} {kws : List (Str × V)} {p1 p2 : Str} (Fn : FunD K x qual params body scope [] kws f fd)
    (h : ∀ (kV doc pm : Value) (an : Option Addr) (cdv ct a b : Value), bindArgs (PySem.W.fnOf x qual params body scope .none kV doc pm an cdv ct) ⟨[], [(p2, a), (p1, b)]⟩ = pure [(p1, b), (p2, a)]) :
    KBn K fd [p1, p2] 0 [p2, p1] (fun _ ws => ws.reverse) (fun _ zs => zs.reverse) := by
  obtain ⟨oc, od, dV, kV, doc, pm, an, cdv, ct, osl, rfl, lk, code, hD, _⟩ := Fn.ex
  rcases hD with ⟨_, rfl⟩ | ⟨e, _⟩
  · refine ⟨fun s us ws _ hu hl => ?_, fun _ r => rel_rev r⟩
    obtain rfl := List.eq_nil_of_length_eq_zero hu
    obtain ⟨a, b, rfl⟩ : ∃ a b, ws = [a, b] := by
      match ws with
      | [] => simp at hl
      | [a] => simp at hl
      | [a, b] => exact ⟨a, b, rfl⟩
      | a :: b :: c :: r => simp at hl
    exact .of_eq (h kV doc pm an cdv ct a b)
  · exact absurd rfl e
end

/-! ### a law's end -/
/-- the def of a law keeps its promise at the script, the def asking that no repr runs -/
theorem law_runs {P : Program} {w : World} {K : PySem.W.Frag} {mg mb : Str → Option Value} {k : Nat} {fa a : Addr} {fd : FuncData} {x : Str} {sp : Sp} {s1 : Shared} {vs : List Value} {ns : List Int}
    (inK : K.In s1.heap) (gl : s1.heap.Ns mainGlobals mg) (bl : s1.heap.Ns builtinsNs mb) (blt : ∀ x : Str, x ≠ "__name__" → mb x = bootBuiltins x) (lim : s1.heap.NoLimit) (gs : s1.gens = #[])
    (at_ : s1.heap.get? a = some { cls := .type "list", data := .seq vs.toArray }) (intv : IntsAre vs ns) (small : ns.length ≤ sizeLine) (room : Room k callerA)
    (F : ∀ base : Heap, K.In base → base.Ns mainGlobals mg → FnG P w K mg base k fa fd [x] sp) (bind : ∀ (s : Shared) (u : Value), BindsTo s fd ⟨[u], []⟩ [(x, u)])
    (keeps : ∀ H : Hp, L2.Only H → SqL K H a (ns.map V.int) → sp [.ref a] H (fun v _ => v = .bl true) fun _ _ _ => False) :
    codeAny (model P w) callerA (.call (.ref fa) ⟨[.ref a], []⟩) (fun r s' => r = .ok (.ret (.bool true)) ∧ OldK s1.heap s'.heap ∧ s'.os = s1.os ∧ AllBare s'.gens) s1 := by
  have rel := vals_ints intv
  -- the abstract heap: the script is tracked, or it is one of the module's own objects
  obtain ⟨H, only, seq, ok, here, out⟩ : ∃ H : Hp, L2.Only H ∧ SqL K H a (ns.map V.int) ∧ HOk P w H s1.heap ∧ (∀ b, H b ≠ none → b = a) ∧ (H a ≠ none → K.lookup a = none) := by
    by_cases kl : ∃ o, K.lookup a = some o
    · obtain ⟨o, kl⟩ := kl
      have eo := inK a o kl
      rw [at_] at eo
      cases eo
      exact ⟨fun _ => none, fun _ => .inl rfl, .inr ⟨_, vs.toArray, _, kl, rfl, rfl, rfl, by rw [List.size_toArray, intv.length]; exact small, by simpa using rel⟩, fun b u e => absurd e (by simp), fun b e => absurd rfl e, fun e => absurd rfl e⟩
    · have kn : K.lookup a = none := by
        cases q : K.lookup a with
        | none => rfl
        | some o => exact absurd ⟨o, q⟩ kl
      refine ⟨upd (fun _ => none) a (.frz { cls := .type "list", data := .seq vs.toArray } (.lst (ns.map V.int))), fun b => ?_, .inl (.inr ⟨_, upd_same⟩), fun b u e => ?_, fun b e => ?_, fun _ => kn⟩
      · by_cases q : b = a
        · subst q; exact .inr ⟨_, _, upd_same⟩
        · exact .inl (upd_ne q)
      · by_cases q : b = a
        · subst q
          rw [upd_same] at e
          cases e
          exact ⟨at_, by rw [List.length_map]; exact small, vs, _, rel, at_⟩
        · rw [upd_ne q] at e
          cases e
      · refine Classical.byContradiction fun q => e ?_
        rw [upd_ne q]
  have off : ∀ {b : Addr} {o : Obj}, s1.heap.get? b = some o → b ≠ a → (hidT s1.heap H).get? b = some o := fun {b o} e ne1 => hidT_get e (Classical.byContradiction fun q => ne1 (here b q))
  have ns_ : ∀ {b : Addr} {m : Str → Option Value}, s1.heap.Ns b m → (hidT s1.heap H).Ns b m := fun {b m} ⟨o, es, ep, e, d, r⟩ => by
    refine ⟨o, es, ep, off e ?_, d, r⟩
    rintro rfl
    rw [at_] at e
    cases e
    cases d
  have kb : K.In (hidT s1.heap H) := fun b o e => by
    refine hidT_get (inK b o e) (Classical.byContradiction fun q => ?_)
    obtain rfl := here b q
    rw [out q] at e
    cases e
  have lim2 : (hidT s1.heap H).NoLimit := by
    obtain ⟨mc, h1, h2⟩ := lim
    exact ⟨mc, ns_ h1, h2⟩
  have e0 : Env0 P w K mg (hidT s1.heap H) callerA [] s1 H :=
    { frames := rfl, mod := ⟨kb, ns_ gl, ⟨mb, ns_ bl, blt⟩, lim2⟩, bs := fun b o e => of_hidT e, bsz := Nat.le_of_eq (hidT_size _ _), funs := trivial, frf := fun b hb => by simp [frs] at hb, hok := ok, bare := .of_eq gs }
  refine codeAny_mono ((F _ kb (ns_ gl)).run callerA [] s1 H ⟨[.ref a], []⟩ [.ref a] [.ref a] _ _ rfl room e0 (bind s1 (.ref a)) (.cons rfl .nil) (keeps H only seq)) fun r s' z => ?_
  match r, z with
  | .error e, z => exact False.elim z
  | .ok .next, z => exact False.elim z
  | .ok .brk, z => exact False.elim z
  | .ok .cont, z => exact False.elim z
  | .ok (.ret u), z =>
    obtain ⟨v, H', os, bare, un, ok', rv, q⟩ := z
    obtain rfl : v = V.bl true := q
    obtain rfl : u = Value.bool true := rv
    refine ⟨rfl, OldK.of_keep fun b o e => ?_, os, bare⟩
    rcases only b with q | ⟨ob, xs, q⟩
    · exact un.keep b o e q (by intro z; simp [frs] at z) (by simp)
    · obtain ⟨e1, _⟩ := ok b _ q
      obtain ⟨e2, _⟩ := ok' b _ (un.frzs b ob _ q)
      rw [e] at e1
      cases e1
      exact e2
theorem walk_ofG {l : PySem.W.OpenLaw} {n k : Nat} {q : Program} {loose : List Str} {XP : (Str → Option Value) → Heap → Prop} {YP : World → Heap → Prop} {d : DefRec} {x : Str}
    (most : l.most = some n) (small : n ≤ sizeLine) (nodef : d.params.defaults = []) (room : Room k callerA)
    (F : ∀ (w : World) (mg : Str → Option Value) (fa : Addr) (h : Heap), YP w h → h.Ns mainGlobals mg → mg d.name = some (.ref fa) →
      ∃ (K : PySem.W.Frag) (fd : FuncData) (sp : Sp), K.In h ∧ (∀ (s : Shared) (u : Value), BindsTo s fd ⟨[u], []⟩ [(x, u)]) ∧
        (∀ (H : Hp) (a : Addr) (ns : List Int), ns.length ≤ n → L2.Only H → SqL K H a (ns.map V.int) → sp [.ref a] H (fun v _ => v = .bl true) fun _ _ _ => False) ∧
        ∀ base : Heap, K.In base → base.Ns mainGlobals mg → FnG l.prog w K mg base k fa fd [x] sp) :
    PySem.W.WalkO q loose XP YP l.row.toRowW d [] (fun f vs => PySem.call f vs) := by
  refine Att.attach_call most nodef fun w s0 s1 mg mb fa o pm cd doc a vs ns G Y _ _ _ glob hobj hintv hlen hgens => ?_
  obtain ⟨K, fd, sp, inK, bind, keeps, prom⟩ := F w mg fa _ Y G.T.g glob
  exact law_runs inK G.T.g G.T.b G.T.builtins G.T.nolimit hgens hobj hintv (Nat.le_trans hlen small) room prom bind fun H only seq => keeps H a ns hlen only seq
end DL
namespace DL
open PySem PySem.Spec PyProof.Rows L2

/-! ### what a call returns is new where no list of it is as an argument's list -/
mutual
/-- the lists and dicts within -/
def nodes : PyData → List PyData
  | .none => []
  | .bool _ => []
  | .int _ => []
  | .str _ => []
  | .list xs => .list xs :: nodesL xs
  | .tuple xs => nodesL xs
  | .dict kvs => .dict kvs :: nodesK kvs
def nodesL : List PyData → List PyData
  | [] => []
  | x :: xs => nodes x ++ nodesL xs
def nodesK : List (PyData × PyData) → List PyData
  | [] => []
  | (_, v) :: r => nodes v ++ nodesK r
end
theorem rd_dK {H : Hp} {a : Addr} {u v : List (Key × V)} (h : Rd H a (.dK u)) (h' : Rd H a (.dK v)) : u = v := by
  rcases h with h | ⟨o, h⟩ <;> rcases h' with h' | ⟨o', h'⟩ <;> rw [h] at h' <;> cases h' <;> rfl
theorem rd_dT {H : Hp} {a : Addr} {u v : List (List Key × V)} (h : Rd H a (.dT u)) (h' : Rd H a (.dT v)) : u = v := by
  rcases h with h | ⟨o, h⟩ <;> rcases h' with h' | ⟨o', h'⟩ <;> rw [h] at h' <;> cases h' <;> rfl
theorem rd_KT {H : Hp} {a : Addr} {u : List (Key × V)} {v : List (List Key × V)} (h : Rd H a (.dK u)) (h' : Rd H a (.dT v)) : False := by
  rcases h with h | ⟨o, h⟩ <;> rcases h' with h' | ⟨o', h'⟩ <;> rw [h] at h' <;> cases h'
theorem rd_lK {H : Hp} {a : Addr} {xs : List V} {u : List (Key × V)} (h : H a = some (.lst xs)) (h' : Rd H a (.dK u)) : False := by
  rcases h' with h' | ⟨o', h'⟩ <;> rw [h] at h' <;> cases h'
theorem rd_lT {H : Hp} {a : Addr} {xs : List V} {u : List (List Key × V)} (h : H a = some (.lst xs)) (h' : Rd H a (.dT u)) : False := by
  rcases h' with h' | ⟨o', h'⟩ <;> rw [h] at h' <;> cases h'
theorem rd_tK {H : Hp} {a : Addr} {xs : List V} {u : List (Key × V)} (h : H a = some (.tup xs)) (h' : Rd H a (.dK u)) : False := by
  rcases h' with h' | ⟨o', h'⟩ <;> rw [h] at h' <;> cases h'
theorem rd_tT {H : Hp} {a : Addr} {xs : List V} {u : List (List Key × V)} (h : H a = some (.tup xs)) (h' : Rd H a (.dT u)) : False := by
  rcases h' with h' | ⟨o', h'⟩ <;> rw [h] at h' <;> cases h'
/-- a value tells one data -/
theorem Is.det {O O' : Addr → Prop} {H : Hp} {v : V} {d : PyData} (h : Is O H v d) : ∀ {e : PyData}, Is O' H v e → d = e := by
  induction h using Is.rec (motive_2 := fun xs ds _ => ∀ {es : List PyData}, IsAll O' H xs es → ds = es) (motive_3 := fun xs ds _ => ∀ {es : List (PyData × PyData)}, IsK O' H xs es → ds = es) (motive_4 := fun xs ds _ => ∀ {es : List (PyData × PyData)}, IsT O' H xs es → ds = es) with
  | non => intro e h; cases h; rfl
  | bl b => intro e h; cases h; rfl
  | int i => intro e h; cases h; rfl
  | str x => intro e h; cases h; rfl
  | lst n r all ih =>
    intro e h
    cases h with
    | lst n' r' all' =>
      rw [r] at r'
      cases r'
      rw [ih all']
    | tup r' all' => rw [r] at r'; cases r'
    | dK n' r' all' => exact (rd_lK r r').elim
    | dT n' r' all' => exact (rd_lT r r').elim
  | tup r all ih =>
    intro e h
    cases h with
    | lst n' r' all' => rw [r] at r'; cases r'
    | tup r' all' =>
      rw [r] at r'
      cases r'
      rw [ih all']
    | dK n' r' all' => exact (rd_tK r r').elim
    | dT n' r' all' => exact (rd_tT r r').elim
  | dK n r all ih =>
    intro e h
    cases h with
    | lst n' r' all' => exact (rd_lK r' r).elim
    | tup r' all' => exact (rd_tK r' r).elim
    | dK n' r' all' =>
      obtain rfl := rd_dK r r'
      rw [ih all']
    | dT n' r' all' => exact (rd_KT r r').elim
  | dT n r all ih =>
    intro e h
    cases h with
    | lst n' r' all' => exact (rd_lT r' r).elim
    | tup r' all' => exact (rd_tT r' r).elim
    | dK n' r' all' => exact (rd_KT r' r).elim
    | dT n' r' all' =>
      obtain rfl := rd_dT r r'
      rw [ih all']
  | nil => first | (rename_i h; cases h; rfl) | (intro es h; cases h; rfl)
  | cons a b iha ihb =>
    rename_i h
    cases h with
    | cons x y => rw [iha x, ihb y]
  | nilK => first | (rename_i h; cases h; rfl) | (intro es h; cases h; rfl)
  | consK a b iha ihb =>
    rename_i h
    cases h with
    | consK x y => rw [iha x, ihb y]
  | nilT => first | (rename_i h; cases h; rfl) | (intro es h; cases h; rfl)
  | consT a b iha ihb =>
    rename_i h
    cases h with
    | consT x y => rw [iha x, ihb y]
/-- the same data, the own containers told anew by the lists and dicts that it has -/
theorem Is.reO {O O' : Addr → Prop} {H : Hp} {v : V} {d : PyData} (h : Is O H v d) : (∀ b l, l ∈ nodes d → Is O H (.ref b) l → ¬ O' b) → Is O' H v d := by
  induction h using Is.rec (motive_2 := fun xs ds _ => (∀ b l, l ∈ nodesL ds → Is O H (.ref b) l → ¬ O' b) → IsAll O' H xs ds) (motive_3 := fun xs ds _ => (∀ b l, l ∈ nodesK ds → Is O H (.ref b) l → ¬ O' b) → IsK O' H xs ds) (motive_4 := fun xs ds _ => (∀ b l, l ∈ nodesK ds → Is O H (.ref b) l → ¬ O' b) → IsT O' H xs ds) with
  | non => intro _; exact .non
  | bl b => intro _; exact .bl b
  | int i => intro _; exact .int i
  | str x => intro _; exact .str x
  | lst n r all ih =>
    intro h
    simp only [nodes] at h
    exact .lst (h _ _ (List.mem_cons_self ..) (.lst n r all)) r (ih fun b l m i => h b l (List.mem_cons_of_mem _ m) i)
  | tup r all ih =>
    intro h
    simp only [nodes] at h
    exact .tup r (ih h)
  | dK n r all ih =>
    intro h
    simp only [nodes] at h
    exact .dK (h _ _ (List.mem_cons_self ..) (.dK n r all)) r (ih fun b l m i => h b l (List.mem_cons_of_mem _ m) i)
  | dT n r all ih =>
    intro h
    simp only [nodes] at h
    exact .dT (h _ _ (List.mem_cons_self ..) (.dT n r all)) r (ih fun b l m i => h b l (List.mem_cons_of_mem _ (by simp only [nodesK, nodes, List.nil_append]; exact m)) i)
  | nil => first | exact .nil | exact fun _ => .nil
  | cons a b iha ihb =>
    rename_i h
    simp only [nodesL, List.mem_append] at h
    exact .cons (iha fun b l m i => h b l (.inl m) i) (ihb fun b l m i => h b l (.inr m) i)
  | nilK => first | exact .nilK | exact fun _ => .nilK
  | consK a b iha ihb =>
    rename_i h
    simp only [nodesK, List.mem_append] at h
    exact .consK (iha fun b l m i => h b l (.inl m) i) (ihb fun b l m i => h b l (.inr m) i)
  | nilT => first | exact .nilT | exact fun _ => .nilT
  | consT a b iha ihb =>
    rename_i h
    simp only [nodesK, List.mem_append] at h
    exact .consT (iha fun b l m i => h b l (.inl m) i) (ihb fun b l m i => h b l (.inr m) i)
theorem IsAll.reO {O O' : Addr → Prop} {H : Hp} : ∀ {vs : List V} {ds : List PyData}, IsAll O H vs ds → (∀ b l, l ∈ nodesL ds → Is O H (.ref b) l → ¬ O' b) → IsAll O' H vs ds
  | _, _, .nil, _ => .nil
  | _, _, .cons a t, h => by
    simp only [nodesL, List.mem_append] at h
    exact .cons (a.reO fun b l m i => h b l (.inl m) i) (t.reO fun b l m i => h b l (.inr m) i)
mutual
theorem no_tup : ∀ (d : PyData) (xs : List PyData), PyData.tuple xs ∉ nodes d
  | .none, _ => by simp [nodes]
  | .bool _, _ => by simp [nodes]
  | .int _, _ => by simp [nodes]
  | .str _, _ => by simp [nodes]
  | .list ds, xs => by
    intro h
    simp only [nodes] at h
    rcases List.mem_cons.mp h with e | e
    · cases e
    · exact no_tupL ds xs e
  | .tuple ds, xs => by
    simp only [nodes]
    exact no_tupL ds xs
  | .dict kvs, xs => by
    intro h
    simp only [nodes] at h
    rcases List.mem_cons.mp h with e | e
    · cases e
    · exact no_tupK kvs xs e
theorem no_tupL : ∀ (ds xs : List PyData), PyData.tuple xs ∉ nodesL ds
  | [], _ => by simp [nodesL]
  | d :: ds, xs => by
    simp only [nodesL, List.mem_append, not_or]
    exact ⟨no_tup d xs, no_tupL ds xs⟩
theorem no_tupK : ∀ (ds : List (PyData × PyData)) (xs : List PyData), PyData.tuple xs ∉ nodesK ds
  | [], _ => by simp [nodesK]
  | (_, d) :: ds, xs => by
    simp only [nodesK, List.mem_append, not_or]
    exact ⟨no_tup d xs, no_tupK ds xs⟩
end
/-- no list and no dict of d is one of ds -/
def Apart (ds : List PyData) (d : PyData) : Prop := ∀ l, l ∈ nodesL ds → l ∉ nodes d
/-- all that is tracked, but what the data ds have -/
def allBut (H : Hp) (ds : List PyData) (b : Addr) : Prop := (∃ o, H b = some o ∧ isTup o = false) ∧ ¬ ∃ O l, l ∈ nodesL ds ∧ Is O H (.ref b) l
theorem new_of {H H' : Hp} {v : V} {d : PyData} {ds : List PyData} (s : Same H H') (is : Is (allBut H ds) H' v d) (ap : Apart ds d) : Is (fun b => H b ≠ none) H' v d := by
  refine is.reO fun b l m i q => ?_
  have t : ∃ o, H' b = some o ∧ isTup o = false := by
    cases i with
    | lst n r _ => exact ⟨_, r, rfl⟩
    | tup r _ =>
      exfalso
      exact no_tup _ _ m
    | dK n r _ => rcases r with r | ⟨o, r⟩ <;> exact ⟨_, r, rfl⟩
    | dT n r _ => rcases r with r | ⟨o, r⟩ <;> exact ⟨_, r, rfl⟩
  have nO : ¬ allBut H ds b := by
    cases i with
    | lst n r _ => exact n
    | tup r _ =>
      obtain ⟨o, h1, h2⟩ := t
      rw [r] at h1; cases h1; cases h2
    | dK n r _ => exact n
    | dT n r _ => exact n
  cases hb : H b with
  | none => exact q hb
  | some o =>
    obtain ⟨o', h1, h2⟩ := t
    have h3 := s b o hb
    rw [h1] at h3
    cases h3
    refine nO ⟨⟨_, hb, h2⟩, fun ⟨O, l', m', i'⟩ => ?_⟩
    have e := (i'.mono (.same s)).det i
    subst e
    exact ap _ m' m

section
variable {X : Cx} {a b c e : Expr} {es : List Expr} {ta tb tc : DT} {t : DTA} {pos : Pos} {x : Str} {p : Pos} {k n : Nat} {f : Addr} {fd : FuncData} {ps : List Str} {F : DF}
/-- new data, all its lists and dicts its own; a list without lists within is an own one -/
def putN (i : Nat) (d : PyData) (ρ : DEnv) (k : DEnv → Prop) : Prop :=
  match d with
  | .list ds => if flats ds = true then ∀ p, k (ρ.set i (some (.own p d))) else ∀ P, k (ρ.set i (some (.deep P d)))
  | _ => if flat d = true then k (ρ.set i (some (.val d))) else ∀ P, k (ρ.set i (some (.deep P d)))
theorem flats_any {O O' : Addr → Prop} {H : Hp} : ∀ {vs : List V} {ds : List PyData}, IsAll O H vs ds → flats ds = true → IsAll O' H vs ds
  | _, _, .nil, _ => .nil
  | _, _, .cons a t, h => by
    simp only [flats, Bool.and_eq_true] at h
    exact .cons (a.flat_any h.1) (flats_any t h.2)
theorem putN_rep {B : Bs} {ρ : DEnv} {σ : L2.St} {H H' : Hp} {i : Nat} {v : V} {d : PyData} {K : DEnv → Prop} (R : Rep B ρ σ H) (s : Same H H') (is : Is (fun b => H b ≠ none) H' v d) (h : putN i d ρ K) :
    ∃ ρ', K ρ' ∧ Rep B ρ' (σ.set i (some v)) H' ∧ Adv (OW B ρ) (OW B ρ') H H' := by
  have deep : (∀ P, K (ρ.set i (some (.deep P d)))) → ∃ ρ', K ρ' ∧ Rep B ρ' (σ.set i (some v)) H' ∧ Adv (OW B ρ) (OW B ρ') H H' := fun h => by
    obtain ⟨R1, m1⟩ := R.freshen (P := fun b => H b = none ∧ ∃ o, H' b = some o ∧ isTup o = false) s fun p q => q
    have is2 : Is (fun b => ¬ (H b = none ∧ ∃ o, H' b = some o ∧ isTup o = false)) H' v d := by
      refine is.reO fun b l m i q => ?_
      refine q ?_
      cases i with
      | lst n r _ => exact ⟨Classical.byContradiction n, _, r, rfl⟩
      | tup r _ => exact (no_tup _ _ m).elim
      | dK n r _ => exact ⟨Classical.byContradiction n, by rcases r with r | ⟨o, r⟩ <;> exact ⟨_, r, rfl⟩⟩
      | dT n r _ => exact ⟨Classical.byContradiction n, by rcases r with r | ⟨o, r⟩ <;> exact ⟨_, r, rfl⟩⟩
    obtain ⟨R2, m2⟩ := R1.adoptC (i := i) (v := v) (c := .deep (fun b => H b = none ∧ ∃ o, H' b = some o ∧ isTup o = false) d) (fun a z => z) is2 fun q z => R.entry z.1
    exact ⟨_, h _, R2, m1.trans m2⟩
  unfold putN at h
  split at h
  · rename_i ds
    by_cases fl : flats ds = true
    · rw [if_pos fl] at h
      cases is with
      | @lst q xs _ n r all =>
        have hn : H q = none := Classical.byContradiction n
        obtain ⟨R1, m1⟩ := R.freshen (P := (· = q)) s fun b e => by
          cases (show b = q from e)
          exact ⟨hn, _, r, rfl⟩
        obtain ⟨f1, f2⟩ := R.entry hn
        obtain ⟨R2, m2⟩ := R1.adopt (i := i) (d := .list ds) ⟨_, r, .lst (flats_any all fl)⟩ f1 f2
        exact ⟨_, h q, R2, m1.trans m2⟩
    · rw [if_neg fl] at h
      exact deep h
  · by_cases fl : flat d = true
    · rw [if_pos fl] at h
      obtain ⟨R2, m2⟩ := (R.same s).setVal (i := i) (is.flat_any (O' := OW B ρ) fl)
      exact ⟨_, h, R2, (Adv.same s).trans m2⟩
    · rw [if_neg fl] at h
      exact deep h
/-- x = f(..), what is told is new -/
def sSetN (i n : Nat) (F : DF) (t : DTA) : DTS := fun E ρ => t ρ fun os ρ1 => os.length = n ∧ rdAllX os ρ1 fun ds => F ds fun d _ => Apart ds d ∧ putN i d ρ1 E.nx
theorem OAll.all {B : Bs} {ρ : DEnv} {σ : L2.St} {H : Hp} (R : Rep B ρ σ H) {vs : List V} {os : List OV} {k : List PyData → Prop} (i : OAll B ρ σ H vs os) (h : rdAllX os ρ k) : ∃ ds, k ds ∧ IsAll (allBut H ds) H vs ds := by
  obtain ⟨ds, h1, is⟩ := OAll.args (P := ownArgs ρ os) R (fun o ho b z => ⟨o, ho, z⟩) i h
  exact ⟨ds, h1, is.reO fun b l m i z => z.2 ⟨_, l, m, i⟩⟩
theorem ds_setN {i : Nat} {y : Str} {pos' spos : Pos} (G : FnOk X.prog X.w X.K X.mg X.base CX0 k f fd ps (spD false n F)) (hr : Room k X.A) (hg : Gl X x) (hm : X.mg x = some (.ref f)) (hk : PySem.W.keepIn X.K (.ref f) = true) (hb : Binds X.K fd ps [])
    (ha : DA X (e :: es) t) (hN : X.N.Nodup) (hi : X.N[i]? = some y) (hy : Loc X.env.scope y) (hdb : (x == ("__debug__" : Str)) = false := by decide) (he : starEach (e :: es) X.env = (false, eval e X.env) :: starEach es X.env := by rfl) (hpl : (backTo pos (starEach es X.env)).any (·.1) = false := by rfl)
    (hs : swapsWith (.Call (.Name x p) (e :: es) [] pos) (some (.Name y pos')) spos.line X.env = pure false := by rfl) (hf : X.fn y = true ∨ X.env.scope.names.lookup y = some .local := by first | exact .inl rfl | exact .inr rfl | assumption) :
    DS X (.Assign [.Name y pos'] (.Call (.Name x p) (e :: es) [] pos) spos) (sSetN i n F t) := PS.imp (ps_set hN hi hy (pe_call G hr hg hm hk hb .nil pass0 ha hdb he hpl) hs hf) fun D σ H ⟨B, ρ, E, R, t, k⟩ => by
  refine ⟨B, ρ, _, R, t, fun os ρ1 vs H1 t1 m1 R1 i1 => ?_⟩
  obtain ⟨hl, t1⟩ := t1
  rw [List.append_nil]
  obtain ⟨ds, h1, is⟩ := OAll.all R1 i1 t1
  refine ⟨by rw [Paired.length i1, hl], allBut H1 ds, ds, _, fun a z => z.1, h1, ?_⟩
  rw [if_neg Bool.false_ne_true]
  refine ⟨is, fun d e v H' hq hs hv => ?_⟩
  obtain ⟨ρ2, h2, R2, m2⟩ := putN_rep R1 hs (new_of hs hv hq.1) hq.2
  exact k.nx _ _ _ h2 (m1.trans m2) R2
/-- a name's containers are no name's -/
theorem Rep.give {B : Bs} {ρ : DEnv} {σ : L2.St} {H : Hp} (R : Rep B ρ σ H) {i : Nat} {c : Cell} (h : ρ[i]? = some (some c)) : Rep (B.more (cellA c)) (ρ.set i none) σ H ∧ Adv (OW B ρ) (OW (B.more (cellA c)) (ρ.set i none)) H H := by
  have sub : ∀ a, OW (B.more (cellA c)) (ρ.set i none) a → OW B ρ a := fun a z => by
    rcases z with (z | z) | z
    · exact .inl z
    · exact .inr ⟨i, c, h, z⟩
    · rcases owns_set z with ⟨_, e, _⟩ | z
      · cases e
      · exact .inr z
  have m := Adv.sub (H := H) sub
  have other : ∀ {j : Nat} {c' : Cell}, (ρ.set i none)[j]? = some (some c') → j ≠ i ∧ ρ[j]? = some (some c') := fun {j c'} e => by
    rcases get_set_cases e with ⟨_, e1, _⟩ | q
    · cases e1
    · exact q
  refine ⟨⟨by rw [List.length_set]; exact R.len, fun a z => ?_, fun j c' e => ?_, fun j c' a e z => ?_, fun j l c1 c2 a e1 e2 z1 z2 => ?_, R.keep⟩, m⟩
  · rcases z with z | z
    · exact R.trk a z
    · exact (R.adr i c a h z).1
  · obtain ⟨v, h1, h2⟩ := R.cel j c' (other e).2
    exact ⟨v, h1, h2.mono m (fun _ _ _ e => e) fun _ _ e _ => e⟩
  · obtain ⟨h1, h2, h3⟩ := R.adr j c' a (other e).2 z
    refine ⟨h1, fun y => y.elim h2 fun y => (other e).1 (R.inj j i c' c a (other e).2 h z y), h3⟩
  · exact R.inj j l c1 c2 a (other e1).2 (other e2).2 z1 z2
/-- x[j].append(e), x told by a call and not looked at again -/
def sDeepApp (i : Nat) (j : Nat) (ta : DT) : DTS := fun E ρ => match ρ[i]? with
  | some (some (.deep P (.tuple ds))) => ∃ l, ds[j]? = some (.list l) ∧ l.length < 16777216 ∧ ta ρ fun o ρ1 => o.tk ρ1 fun d ρ2 => ρ2[i]? = some (some (.deep P (.tuple ds))) ∧ E.nx (ρ2.set i none)
  | _ => False
theorem ds_deepApp {i j : Nat} {kk : Nat} {p1 p2 apos cpos : Pos} (hx : PE X (.Name x p) (tVar i)) (ha : DO X e ta)
    (hbase : attributeBase (.Subscript (.Name x p) (.Constant (.int (j : Nat)) kk p1) p2) "append" X.env (eval (.Subscript (.Name x p) (.Constant (.int (j : Nat)) kk p1) p2) X.env) = eval (.Subscript (.Name x p) (.Constant (.int (j : Nat)) kk p1) p2) X.env := by rfl)
    (hfew : ((backTo cpos (starEach [e] X.env)).all (fun x => !x.1) && (backToKw cpos (keywordEach [] X.env)).all (fun x => x.1.isSome) && decide (([e] : List Expr).length + ([] : List Keyword).length + (if ([] : List Keyword).isEmpty then 0 else 1) < 30)) = true := by rfl)
    (hline : (apos.endLine == cpos.line) = true := by rfl) (hs : starEach [e] X.env = (false, eval e X.env) :: starEach [] X.env := by rfl) (hplain : (backTo cpos (starEach [] X.env)).any (·.1) = false := by rfl)
    (hsw : swapsWith (.Call (.Attribute (.Subscript (.Name x p) (.Constant (.int (j : Nat)) kk p1) p2) "append" apos) [e] [] cpos) none pos.line X.env = pure false := by rfl) (hp : PlainIx (.Constant (.int (j : Nat)) kk p1) := by exact fun _ _ => rfl) :
    DS X (.Expr (.Call (.Attribute (.Subscript (.Name x p) (.Constant (.int (j : Nat)) kk p1) p2) "append" apos) [e] [] cpos) pos) (sDeepApp i j ta) :=
  PS.imp (ps_expr (pe_bm PySem.F.plainAttrs_list PySem.F.slot_list_append PySem.F.type_list_append mt_append (pe_ix ix_seq hx pe_int hp) (pa_cons ha pa_nil hs) hbase hfew hline hs hplain) hsw) fun D σ H ⟨B, ρ, E, R, t, k⟩ => by
  unfold sDeepApp at t
  split at t
  · rename_i P ds h0
    obtain ⟨l, hl, hz, t⟩ := t
    have at_ : ∀ {ρ' : DEnv} {H' : Hp}, ρ'[i]? = some (some (.deep P (.tuple ds))) → Rep B ρ' σ H' → ∃ a xs q ys, σ[i]? = some (some (.ref a)) ∧ H' a = some (.tup xs) ∧ xs[j]? = some (.ref q) ∧ P q ∧ H' q = some (.lst ys) ∧ ys.length = l.length := by
      intro ρ' H' e R'
      obtain ⟨v, h1, h2⟩ := R'.cel i _ e
      obtain ⟨a, xs, rfl, f1, f2⟩ := Is.tup' (show Is (fun b => ¬ P b) H' v (.tuple ds) from h2)
      obtain ⟨w, g1, g2⟩ := f2.get hl
      cases g2 with
      | @lst q ys _ n r all => exact ⟨a, xs, q, ys, h1, f1, g1, Classical.byContradiction n, r, all.length⟩
    obtain ⟨a, xs, q, ys, s1, f1, f2, f3, f4, f5⟩ := at_ h0 R
    refine ⟨_, s1, .inr (.inl ⟨a, xs, (j : Nat), .ref q, rfl, rfl, SqT.of f1, atI_nat f2, ?_⟩)⟩
    · refine ⟨.inl ⟨rfl, ys, SqL.of f4⟩, B, ρ, _, R, t, fun o ρ1 v H1 t1 m1 R1 i1 => ?_⟩
      obtain ⟨d, ρ2, ⟨h2, h3⟩, is, R2, m2⟩ := i1.tk R1 t1
      obtain ⟨a', xs', q', ys', s1', f1', f2', f3', f4', f5'⟩ := at_ h2 R2
      rw [s1] at s1'
      cases s1'
      have e1 : H1 a = some (.tup xs) := m1.1 _ _ f1 (.inr rfl)
      rw [f1'] at e1
      cases e1
      rw [f2] at f2'
      cases f2'
      refine ⟨q, ys', v, rfl, rfl, f4', by rw [sizeLine_eq, f5']; exact hz, ?_⟩
      obtain ⟨R3, m3⟩ := R2.give h2
      obtain ⟨_, _, g3⟩ := R2.adr i _ q h2 f3'
      obtain ⟨R4, m4⟩ := R3.writeO (p := q) (u := .lst (ys' ++ [v])) (.inr f3') g3 rfl
      obtain ⟨R5, m5⟩ := R4.drop
      exact k.nx _ _ _ h3 ((((m1.trans m2).trans m3).trans m4).trans m5) R5
  · exact t.elim
/-- f(..), what is told is new -/
def dCallN (n : Nat) (F : DF) (t : DTA) : DT := fun ρ q => t ρ fun os ρ1 => os.length = n ∧ rdAllX os ρ1 fun ds => F ds fun d _ => Apart ds d ∧ q (.vl d) ρ1
theorem new_is {B : Bs} {ρ : DEnv} {σ : L2.St} {H H' : Hp} {v : V} {d : PyData} (R : Rep B ρ σ H) (is : Is (fun b => H b ≠ none) H' v d) : Is (OW B ρ) H' v d := is.reO fun b l m i q => by
  obtain ⟨o, e, _⟩ := R.ow q
  cases i with
  | lst n r _ => exact n (by rw [e]; simp)
  | tup r _ => exact (no_tup _ _ m).elim
  | dK n r _ => exact n (by rw [e]; simp)
  | dT n r _ => exact n (by rw [e]; simp)
theorem upCallN {E : XK} {σ : L2.St} {H : Hp} {Q : VK} (h : upO (dCallN n F t) σ H Q) : tCall (spD false n F) [] E (upA t) σ H Q := by
  obtain ⟨B, ρ, q, R, t, k⟩ := h
  refine ⟨B, ρ, _, R, t, fun os ρ1 vs H1 t1 m1 R1 i1 => ?_⟩
  obtain ⟨hl, t1⟩ := t1
  rw [List.append_nil]
  obtain ⟨ds, h1, is⟩ := OAll.all R1 i1 t1
  refine ⟨by rw [Paired.length i1, hl], allBut H1 ds, ds, _, fun a z => z.1, h1, ?_⟩
  rw [if_neg Bool.false_ne_true]
  exact ⟨is, fun d e v H' hq hs hv => k _ _ _ _ hq.2 (m1.trans (.same hs)) (R1.same hs) (new_is R1 (new_of hs hv hq.1))⟩
theorem do_callN (G : FnOk X.prog X.w X.K X.mg X.base CX0 k f fd ps (spD false n F)) (hr : Room k X.A) (hg : Gl X x) (hm : X.mg x = some (.ref f)) (hk : PySem.W.keepIn X.K (.ref f) = true) (hb : Binds X.K fd ps [])
    (ha : DA X (e :: es) t) (hdb : (x == ("__debug__" : Str)) = false := by decide) (he : starEach (e :: es) X.env = (false, eval e X.env) :: starEach es X.env := by rfl) (hpl : (backTo pos (starEach es X.env)).any (·.1) = false := by rfl) :
    DO X (.Call (.Name x p) (e :: es) [] pos) (dCallN n F t) := PE.imp (pe_call G hr hg hm hk hb .nil pass0 ha hdb he hpl) fun _ _ _ h => upCallN h
/-- f(b = .., a = ..), what is told is new -/
def dKw2N (F : DF) (t : DTA) : DT := fun ρ q => t ρ fun os ρ1 => os.length = 2 ∧ rdAllX os ρ1 fun ds => F ds.reverse fun d _ => Apart ds d ∧ q (.vl d) ρ1
theorem do_kw2N {kws : List Keyword} {x1 x2 : Str} (G : FnOk X.prog X.w X.K X.mg X.base CX0 k f fd ps (spD false 2 F)) (hr : Room k X.A) (hg : Gl X x) (hm : X.mg x = some (.ref f)) (hk : PySem.W.keepIn X.K (.ref f) = true)
    (hb : KBn X.K fd ps 0 [x1, x2] (fun _ ws => ws.reverse) (fun _ zs => zs.reverse)) (hkw : DK X kws t) (hall : (backToKw pos (keywordEach kws X.env)).all (·.1.isSome) = true := by rfl) (hks : (backToKw pos (keywordEach kws X.env)).filterMap (·.1) = [x1, x2] := by rfl)
    (hdb : (x == ("__debug__" : Str)) = false := by decide) (hpl : ((backTo pos (starEach [] X.env)).any (·.1) || (backToKw pos (keywordEach kws X.env)).any (·.1.isNone)) = false := by rfl) :
    DO X (.Call (.Name x p) [] kws pos) (dKw2N F t) := PE.imp (pe_kws G hr hg hm hk hb hkw hall hks hdb hpl) fun σ H Q ⟨B, ρ, q, R, t, k⟩ => by
  refine ⟨B, ρ, _, R, t, fun os ρ1 vs H1 t1 m1 R1 i1 => ?_⟩
  obtain ⟨hl, t1⟩ := t1
  obtain ⟨ds, h1, is⟩ := OAll.all R1 i1 t1
  refine ⟨(Paired.length i1).trans hl, by rw [List.length_reverse, Paired.length i1, hl], allBut H1 ds, ds.reverse, _, fun a z => z.1, h1, ?_⟩
  rw [if_neg Bool.false_ne_true]
  exact ⟨is.reverse, fun d e v H' hq hs hv => k _ _ _ _ hq.2 (m1.trans (.same hs)) (R1.same hs) (new_is R1 (new_of hs hv hq.1))⟩
end
end DL
namespace DL
open PySem PySem.Spec PyProof.Rows L2

/-! ### for x in a list, a tuple or a text -/
def ItS (K : PySem.W.Frag) : ZS → It
  | .l a => Itl K a
  | .t a => Itt K a
  | .s x => Its x
section
variable {X : Cx} {tg e : Expr} {te : TE} {ta : DT} {pos : Pos}
def iAnyV (K : PySem.W.Frag) (te : TE) : TI := fun σ H R => te σ H fun v H1 => ∃ (z : ZS) (xs : List V), v = z.v ∧ z.sq K H1 xs ∧ R (ItS K z) H1
theorem pi_any (he : PE X e te) : PI X tg e (iAnyV X.K te) := by
  refine ⟨fun pins s σ H R I h => thn (he.run pins s σ H _ I h) fun v s1 ⟨y, H1, J, rel, z, xs, ev, hq, q⟩ => ?_⟩
  subst ev
  have fresh : ∀ b ∈ [s1.heap.objs.size], FpOk X pins H1 b := fun b hb => by
    rw [List.mem_singleton.mp hb]
    exact J.fpOk (Nat.le_refl _) (J.hok.fresh (Nat.le_refl _))
  have grown : ∀ o : Obj, Inv X pins σ H1 { s1 with heap := s1.heap.push o } := fun o => J.kept (t' := s1.toks) fun b u q => Heap.get?_push_of_some _ q
  cases z with
  | l a =>
    cases rel
    obtain ⟨its, rv, p, _⟩ := J.list hq
    exact wpAny_pyIter_list p.isList ⟨_, _, _, _, H1, rfl, grown _, turn_list a _, ⟨_, Heap.get?_push_size _ rfl, rfl, rfl⟩, fresh, q⟩
  | t a =>
    cases rel
    obtain ⟨its, rv, p, _⟩ := J.tuple hq
    exact wpAny_pyIter_tuple (show s1.heap.IsTuple a its.toArray from p) ⟨_, _, _, _, H1, rfl, grown _, turn_tuple a _, ⟨_, Heap.get?_push_size _ rfl, rfl, rfl⟩, fresh, q⟩
  | s x =>
    obtain ⟨t, rfl⟩ := rel
    by_cases ha : x.cps.all (· < 128) = true
    · exact wpAny_pyIter_ascii ha ⟨_, _, _, _, H1, rfl, grown _, turn_str _ x t "str_ascii_iterator" (.inl rfl), ⟨_, Heap.get?_push_size _ rfl, rfl, rfl⟩, fresh, q⟩
    · exact wpAny_pyIter_wide (by simpa using ha) ⟨_, _, _, _, H1, rfl, grown _, turn_str _ x t "str_iterator" (.inr rfl), ⟨_, Heap.get?_push_size _ rfl, rfl, rfl⟩, fresh, q⟩
theorem src_any {K : PySem.W.Frag} {O : Addr → Prop} {H0 : Hp} {v : V} {d : PyData} {ds : List PyData} (is : Is O H0 v d) (e : seqD d = some ds) : ∃ (z : ZS) (xs : List V), v = z.v ∧ z.sq K H0 xs ∧ Src (ItS K z) O H0 ds := by
  cases is with
  | non => cases e
  | bl b => cases e
  | int i => cases e
  | @lst a xs ds' n r all => cases e; exact ⟨.l a, xs, rfl, SqL.of r, src_list n r all⟩
  | @tup a xs ds' r all => cases e; exact ⟨.t a, xs, rfl, SqT.of r, src_tup r all⟩
  | str x =>
    cases e
    refine ⟨.s x, _, rfl, rfl, fun i O' H m => ⟨fun d hd => ?_, fun hl => ?_⟩⟩
    · rw [List.getElem?_map] at hd
      cases q : (L x)[i]? with
      | none => rw [q] at hd; cases hd
      | some c =>
        rw [q] at hd
        cases hd
        have q' : x.cps[i]? = some c := by rw [← Array.getElem?_toList]; exact q
        refine ⟨(Array.getElem?_eq_some_iff.mp q').1, fun y H' ⟨e, c', hc, ey⟩ => ?_⟩
        rw [q'] at hc
        cases hc
        subst e ey
        exact ⟨Same.refl _, .str _⟩
    · rw [List.length_map, L_len] at hl
      exact Nat.le_of_eq hl.symm
  | dK n r t => cases e
  | dT n r t => cases e
def iAny (ta : DT) : DTI := fun ρ q => ta ρ fun o ρ1 => o.tk ρ1 fun d ρ2 => ∃ ds, seqD d = some ds ∧ q ds ρ2
theorem di_any (ha : DO X e ta) : DI X tg e (iAny ta) := PI.imp (pi_any ha) fun σ H R' ⟨B, ρ, q, R, t, k⟩ => by
  refine ⟨B, ρ, _, R, t, fun o ρ1 v H1 t1 m1 R1 i1 => ?_⟩
  obtain ⟨d, ρ2, ⟨ds, hd, h2⟩, is, R2, m2⟩ := i1.tk R1 t1
  obtain ⟨z, xs, ev, hq, src⟩ := src_any (K := X.K) is hd
  exact ⟨z, xs, ev, hq, k _ _ _ _ h2 (m1.trans m2) R2 src⟩
end

/-! ### a = list(x) -/
section
variable {X : Cx} {e : Expr} {ta : DT} {pos p : Pos}
def fListOf (ta : DT) : DTF := fun ρ q => ta ρ fun o ρ1 => o.rd ρ1 fun d => match d with
  | .list ds => q (.list ds) ρ1
  | .tuple ds => q (.list ds) ρ1
  | _ => False
theorem dfr_listOf (hg : Gl X "list") (hm : X.mg "list" = none) (ha : DO X e ta) (he : starEach [e] X.env = (false, eval e X.env) :: starEach [] X.env := by rfl) : DFr X (.Call (.Name "list" p) [e] [] pos) (fListOf ta) :=
  PE.imp (pe_callTy call_list_of hg hm (by decide +kernel) (pa_cons ha pa_nil he) (by decide) (by decide) he) fun σ H Q ⟨B, ρ, q, R, t, k⟩ => by
  refine ⟨B, ρ, _, R, t, fun o ρ1 v H1 t1 m1 R1 i1 => ?_⟩
  obtain ⟨d, h2, rd⟩ := i1.rd R1 t1
  have fin : ∀ {ys : List V} {ds : List PyData} (l : Addr), q (.list ds) ρ1 → IsAll (OW B ρ1) H1 ys ds → H1 l = none → Q (.ref l) (upd H1 l (.lst ys)) := fun {ys ds} l hq all hl => by
    obtain ⟨R3, tp, m3⟩ := R1.fresh hl (.lst all)
    obtain ⟨e1, e2⟩ := R1.entry hl
    exact k _ _ _ _ hq e1 e2 (m1.trans m3) R3 tp
  split at h2
  · obtain ⟨a, ys, rfl, e2, e3⟩ := rd.lst
    exact ⟨a, ys, rfl, .inl (SqL.of e2), fun l hl => fin l h2 e3 hl⟩
  · obtain ⟨a, ys, rfl, e2, e3⟩ := rd.tup
    exact ⟨a, ys, rfl, .inr (SqT.of e2), fun l hl => fin l h2 e3 hl⟩
  · exact h2.elim
/-- a module's text or number -/
theorem do_glo {x : Str} {v : V} {d : PyData} {u : Value} (hg : Gl X x) (hm : X.mg x = some u) (r : RelV v u) (s : Sc v d) (hd : (x == ("__debug__" : Str)) = false := by decide) : DO X (.Name x pos) (dC d) := do_c (pe_glob hg hm r hd) s
end

/-! ### what is known of a def -/
structure Know (P : Program) (w : World) (K : PySem.W.Frag) (mg : Str → Option Value) (base : Heap) (x : Str) (k : Nat) (ps : List Str) (m : Bool) (n : Nat) (F : DF) : Prop where
  ex : ∃ (f : Addr) (fd : FuncData), mg x = some (.ref f) ∧ PySem.W.keepIn K (.ref f) = true ∧ L2.Binds K fd ps [] ∧ FnOk P w K mg base CX0 k f fd ps (spD m n F)
/-- .. and of its call by two keywords, turned round -/
structure KnowK (P : Program) (w : World) (K : PySem.W.Frag) (mg : Str → Option Value) (base : Heap) (x : Str) (k : Nat) (p1 p2 : Str) (F : DF) : Prop where
  ex : ∃ (f : Addr) (fd : FuncData), mg x = some (.ref f) ∧ PySem.W.keepIn K (.ref f) = true ∧ L2.Binds K fd [p1, p2] [] ∧ FnOk P w K mg base CX0 k f fd [p1, p2] (spD false 2 F) ∧ KBn K fd [p1, p2] 0 [p2, p1] (fun _ ws => ws.reverse) (fun _ zs => zs.reverse)
structure KnowG (P : Program) (w : World) (K : PySem.W.Frag) (mg : Str → Option Value) (base : Heap) (x : Str) (k : Nat) (ps : List Str) (m : Bool) (n : Nat) (F : DF) : Prop where
  ex : ∃ (f : Addr) (fd : FuncData), mg x = some (.ref f) ∧ PySem.W.keepIn K (.ref f) = true ∧ L2.Binds K fd ps [] ∧ FnG P w K mg base k f fd ps (spD m n F)
end DL
namespace DL
open PySem PySem.Spec PyProof.Rows L2

/-! ### min and max of a tuple or list of integers -/
section
variable {prog : Program} {w : World} {A : Around} {E : Value → Shared → Prop} {s : Shared} {l : Addr} {xs : Array (Int × Tok)} {its : List Value} {ns : List Int} {Q : Value → Shared → Prop}
theorem iter_tupI (hl : s.heap.IsTuple l (intItems xs))
    (h : ∀ s2 : Shared, s2 = { s with heap := s.heap.push { cls := .type "tuple_iterator", data := .fields #[.ref l, .int 0 0] } } →
      (s2.heap.IsTupleIter s.heap.objs.size l 0 ∧ s2.heap.IsTuple l (intItems xs)) → (∀ b ∈ [s.heap.objs.size, l], b < s2.heap.objs.size) → l ≠ s.heap.objs.size → Q (.ref s.heap.objs.size) s2) :
    wpAny (model prog w) A (pyIter (.ref l)) Q E s := by
  have hlt : l < s.heap.objs.size := by
    obtain ⟨_, e, _⟩ := hl
    exact Heap.lt_size e
  refine wpAny_pyIter_tuple hl (h _ rfl ⟨⟨_, Heap.get?_push_size _ rfl, rfl, rfl⟩, hl.push _⟩ (fun b hb => ?_) (Nat.ne_of_lt hlt))
  have sz : (s.heap.push { cls := .type "tuple_iterator", data := .fields #[.ref l, .int 0 0] }).objs.size = s.heap.objs.size + 1 := Heap.size_push ..
  have hb' : b = s.heap.objs.size ∨ b = l := by simpa using hb
  show b < (s.heap.push _).objs.size
  rw [sz]
  rcases hb' with e | e
  · rw [e]; exact Nat.lt_succ_self _
  · rw [e]; exact Nat.lt_succ_of_lt hlt
theorem old_keptT {h' : Heap} (hk : ∀ b o, b ∉ [s.heap.objs.size] → (s.heap.push { cls := .type "tuple_iterator", data := .fields #[.ref l, .int 0 0] }).get? b = some o → h'.get? b = some o) :
    ∀ b o, s.heap.get? b = some o → h'.get? b = some o := fun b o e => by
  refine hk b o (fun hm => ?_) (Heap.get?_push_of_some _ e)
  have e1 : b = s.heap.objs.size := by simpa using hm
  exact absurd (e1 ▸ Heap.lt_size e) (Nat.lt_irrefl _)
theorem min_tupRaw (hh : A.handled = none) (hl : s.heap.IsTuple l its.toArray) (hi : IntsAre its ns) (hne : 0 < ns.length)
    (h : ∀ h' tk M t', (∀ b o, s.heap.get? b = some o → h'.get? b = some o) → M ∈ ns → (∀ a, a ∈ ns → M ≤ a) → Q (.int M t') { s with heap := h', toks := tk }) : wpAny (model prog w) A (call (.builtin "min") [.ref l]) Q E s := by
  obtain ⟨xs, e⟩ := hi.allInts.items
  have hn : numsOf (intItems xs).toList = ns := by rw [← e]; exact hi.numsOf
  rw [nums_intItems] at hn
  subst hn
  rw [e] at hl
  have hsz : 0 < xs.size := by simpa using hne
  refine call_min_walk (iter_tupI hl fun s2 e st hfp hlI => ?_)
  subst e
  refine ⟨_, _, _, _, _, _, _, rfl, Walks.tuple (A := A.in1) hh _ l hlI (intItems xs), st, hfp, by simpa [intItems] using hsz, CmpOf.ints_lt (numAt xs) (fun _ _ => intItems_at), fun v h' tk hP hk => ?_⟩
  have hv : (intItems xs)[argBest (fun i j => decide (numAt xs i < numAt xs j)) (xs.size - 1)]? = some v := by simpa [intItems] using hP
  obtain ⟨t, rfl⟩ := intItems_at hv
  obtain ⟨h1, h2⟩ := argBest_lt (numAt xs) (xs.size - 1)
  refine h h' tk _ t (old_keptT hk) ?_ fun a ha => ?_
  · rw [numAt_eq]
    exact PySem.getD_mem (by rw [List.length_map, Array.length_toList]; omega)
  · obtain ⟨j, hj, rfl⟩ := mem_getD ha
    rw [List.length_map, Array.length_toList] at hj
    rw [← numAt_eq]
    exact h2 j (by omega)
theorem max_tupRaw (hh : A.handled = none) (hl : s.heap.IsTuple l its.toArray) (hi : IntsAre its ns) (hne : 0 < ns.length)
    (h : ∀ h' tk M t', (∀ b o, s.heap.get? b = some o → h'.get? b = some o) → M ∈ ns → (∀ a, a ∈ ns → a ≤ M) → Q (.int M t') { s with heap := h', toks := tk }) : wpAny (model prog w) A (call (.builtin "max") [.ref l]) Q E s := by
  obtain ⟨xs, e⟩ := hi.allInts.items
  have hn : numsOf (intItems xs).toList = ns := by rw [← e]; exact hi.numsOf
  rw [nums_intItems] at hn
  subst hn
  rw [e] at hl
  have hsz : 0 < xs.size := by simpa using hne
  refine call_max_walk (iter_tupI hl fun s2 e st hfp hlI => ?_)
  subst e
  refine ⟨_, _, _, _, _, _, _, rfl, Walks.tuple (A := A.in1) hh _ l hlI (intItems xs), st, hfp, by simpa [intItems] using hsz, CmpOf.ints_gt (numAt xs) (fun _ _ => intItems_at), fun v h' tk hP hk => ?_⟩
  have hv : (intItems xs)[argBest (fun i j => decide (numAt xs i > numAt xs j)) (xs.size - 1)]? = some v := by simpa [intItems] using hP
  obtain ⟨t, rfl⟩ := intItems_at hv
  obtain ⟨h1, h2⟩ := argBest_gt (numAt xs) (xs.size - 1)
  refine h h' tk _ t (old_keptT hk) ?_ fun a ha => ?_
  · rw [numAt_eq]
    exact PySem.getD_mem (by rw [List.length_map, Array.length_toList]; omega)
  · obtain ⟨j, hj, rfl⟩ := mem_getD ha
    rw [List.length_map, Array.length_toList] at hj
    rw [← numAt_eq]
    exact h2 j (by omega)
end
def minI : List Int → Int
  | [] => 0
  | [x] => x
  | x :: y :: r => min x (minI (y :: r))
def maxI : List Int → Int
  | [] => 0
  | [x] => x
  | x :: y :: r => max x (maxI (y :: r))
theorem minI_le : ∀ {ns : List Int} {a : Int}, a ∈ ns → minI ns ≤ a
  | [x], a, h => by
    have : a = x := by simpa using h
    rw [this]
    exact Int.le_refl _
  | x :: y :: r, a, h => by
    show min x (minI (y :: r)) ≤ a
    rcases List.mem_cons.mp h with e | e
    · rw [e]; exact Int.min_le_left ..
    · exact Int.le_trans (Int.min_le_right ..) (minI_le e)
theorem minI_mem : ∀ {ns : List Int}, 0 < ns.length → minI ns ∈ ns
  | [x], _ => List.mem_cons_self ..
  | x :: y :: r, _ => by
    show min x (minI (y :: r)) ∈ _
    by_cases c : x ≤ minI (y :: r)
    · rw [Int.min_eq_left c]; exact List.mem_cons_self ..
    · rw [Int.min_eq_right (by omega)]; exact List.mem_cons_of_mem _ (minI_mem (by simp))
theorem le_maxI : ∀ {ns : List Int} {a : Int}, a ∈ ns → a ≤ maxI ns
  | [x], a, h => by
    have : a = x := by simpa using h
    rw [this]
    exact Int.le_refl _
  | x :: y :: r, a, h => by
    show a ≤ max x (maxI (y :: r))
    rcases List.mem_cons.mp h with e | e
    · rw [e]; exact Int.le_max_left ..
    · exact Int.le_trans (le_maxI e) (Int.le_max_right ..)
theorem maxI_mem : ∀ {ns : List Int}, 0 < ns.length → maxI ns ∈ ns
  | [x], _ => List.mem_cons_self ..
  | x :: y :: r, _ => by
    show max x (maxI (y :: r)) ∈ _
    by_cases c : x ≤ maxI (y :: r)
    · rw [Int.max_eq_right c]; exact List.mem_cons_of_mem _ (maxI_mem (by simp))
    · rw [Int.max_eq_left (by omega)]; exact List.mem_cons_self ..
def rMinA (K : PySem.W.Frag) : List V → Hp → VK → Prop := fun vs H Q => ∃ (a : Addr) (ns : List Int), vs = [V.ref a] ∧ (SqL K H a (ns.map V.int) ∨ SqT K H a (ns.map V.int)) ∧ 0 < ns.length ∧ Q (.int (minI ns)) H
def rMaxA (K : PySem.W.Frag) : List V → Hp → VK → Prop := fun vs H Q => ∃ (a : Addr) (ns : List Int), vs = [V.ref a] ∧ (SqL K H a (ns.map V.int) ∨ SqT K H a (ns.map V.int)) ∧ 0 < ns.length ∧ Q (.int (maxI ns)) H
theorem cr_minA {X : Cx} (hc : X.calm = true) : CallR X (.builtin "min") (rMinA X.K) := by
  intro pins s σ H vs us Q I r h
  obtain ⟨a, ns, rfl, hs, hne, q⟩ := h
  rw [Vals.ref1 r]
  have fin : ∀ {m : Int}, m ∈ ns → (∀ y, y ∈ ns → m ≤ y) → m = minI ns := fun h1 h2 => Int.le_antisymm (h2 _ (minI_mem hne)) (minI_le h1)
  rcases hs with hs | hs
  · obtain ⟨its, rv, hl, _⟩ := I.list hs
    exact min_raw (I.ok.hd hc) hl.isList rv.ints hne fun h' tk m t' hk h1 h2 => ⟨.int _, H, I.kept hk, ⟨_, rfl⟩, by rw [fin h1 h2]; exact q⟩
  · obtain ⟨its, rv, hl, _⟩ := I.tuple hs
    exact min_tupRaw (I.ok.hd hc) hl rv.ints hne fun h' tk m t' hk h1 h2 => ⟨.int _, H, I.kept hk, ⟨_, rfl⟩, by rw [fin h1 h2]; exact q⟩
theorem cr_maxA {X : Cx} (hc : X.calm = true) : CallR X (.builtin "max") (rMaxA X.K) := by
  intro pins s σ H vs us Q I r h
  obtain ⟨a, ns, rfl, hs, hne, q⟩ := h
  rw [Vals.ref1 r]
  have fin : ∀ {m : Int}, m ∈ ns → (∀ y, y ∈ ns → y ≤ m) → m = maxI ns := fun h1 h2 => Int.le_antisymm (le_maxI h1) (h2 _ (maxI_mem hne))
  rcases hs with hs | hs
  · obtain ⟨its, rv, hl, _⟩ := I.list hs
    exact max_raw (I.ok.hd hc) hl.isList rv.ints hne fun h' tk m t' hk h1 h2 => ⟨.int _, H, I.kept hk, ⟨_, rfl⟩, by rw [fin h1 h2]; exact q⟩
  · obtain ⟨its, rv, hl, _⟩ := I.tuple hs
    exact max_tupRaw (I.ok.hd hc) hl rv.ints hne fun h' tk m t' hk h1 h2 => ⟨.int _, H, I.kept hk, ⟨_, rfl⟩, by rw [fin h1 h2]; exact q⟩
/-! ### a text turned round -/
theorem rev_pick (z : Str) : (⟨((Builtin.Str.strSliceIndices none none (-1) z.length).filterMap (z.cps[·]?)).toArray⟩ : Str) = mk (L z).reverse := by
  rw [picked_rev, PySem.W.krv_range, List.filterMap_reverse]
  have e := PySem.W.krv_all z.cps
  unfold mk L
  rw [← e]
  rfl
def tRevS (te : TE) : TE := fun σ H Q => te σ H fun v H1 => ∃ z : Str, v = .str z ∧ z.length ≤ sizeLine ∧ Q (.str (mk (L z).reverse)) H1
section
variable {X : Cx} {e : Expr} {te : TE} {ta : DT} {pos p2 p3 p4 : Pos} {j : Nat}
theorem pe_revS (he : PE X e te) : PE X (.Subscript e (.Slice none none (some (.UnaryOp .USub (.Constant (.int 1) j p3) p4)) p2) pos) (tRevS te) := by
  have hst : PO X (some (.UnaryOp .USub (.Constant (.int 1) j p3) p4)) _ := po_some (pe_un un_neg (pe_int (X := X) (i := 1) (j := j) (pos := p3)))
  refine ⟨fun pins s σ H Q I h => ?_⟩
  refine Subscript_ (thn (he.run pins s σ H _ I h) fun v s1 ⟨x, H1, I1, r1, q1⟩ => ?_)
  obtain ⟨z, rfl, hz, q⟩ := q1
  obtain ⟨tz, rfl⟩ := r1
  refine wpAny_Slice ?_
  rw [evalPart_none]
  refine wpAny_pure ?_
  refine wpAny_pure (thn (hst.run pins s1 σ H1 (fun o H2 => o = some (-1) ∧ H2 = H1) I1 ?_) fun vs s2 ⟨o, H2, I2, ps, q2, q3⟩ => ?_)
  · exact ⟨1, rfl, -1, rfl, rfl, rfl⟩
  · subst q2 q3
    have I4 : Inv X pins σ H2 { s2 with heap := s2.heap.push { cls := .type "slice", data := .fields #[.none, .none, vs] } } := I2.kept (t' := s2.toks) fun b ob q => Heap.get?_push_of_some _ q
    obtain ⟨st, e1, e2⟩ := IsPart.raw ps
    cases st with
    | none => cases e2
    | some st =>
      obtain ⟨i, t⟩ := st
      have ei : i = -1 := by
        have := e2
        simp at this
        omega
      subst ei
      subst e1
      show wpAny (model X.prog X.w) X.A (subscriptTail e (.Slice none none (some (.UnaryOp .USub (.Constant (.int 1) j p3) p4)) p2) (.str z tz) (.ref s2.heap.objs.size)) (EP X pins σ Q) X.xe _
      refine tail_any (ops := [.ref s2.heap.objs.size, .str z tz]) (typeIs_str _ _ _) F.slot_str_getitem.lookup ?_ (by with_unfolding_all rfl)
      refine wpAny_getItem_str_slice (l := none) (u := none) (st := some (-1, t)) ⟨_, Heap.get?_push_size _ rfl, rfl, rfl⟩ rfl ?_
      show Made.post (if ((-1 : Int) == 1 && (Builtin.Str.strSliceIndices none none (-1) z.length).length == z.length) = true then Made.val (.str z tz)
        else Made.str ⟨((Builtin.Str.strSliceIndices none none (-1) z.length).filterMap (z.cps[·]?)).toArray⟩) _ _
      rw [if_neg (by simp), rev_pick]
      refine ⟨?_, .str _, H2, I4.tok _, ⟨_, rfl⟩, q⟩
      show (L z).reverse.toArray.size ≤ sizeLine
      rw [List.size_toArray, List.length_reverse, L_len]
      exact hz
def gRevS : D1 := fun d q => match d with
  | .str z => z.length ≤ 16777216 ∧ q (.str (mk (L z).reverse))
  | _ => False
theorem do_revS (ha : DO X e ta) : DO X (.Subscript e (.Slice none none (some (.UnaryOp .USub (.Constant (.int 1) j p3) p4)) p2) pos) (d1 gRevS ta) := PE.imp (pe_revS ha) fun σ H Q ⟨B, ρ, q, R, t, k⟩ => by
  refine ⟨B, ρ, _, R, t, fun o ρ1 v H1 t1 m1 R1 i1 => ?_⟩
  obtain ⟨d, h1, r⟩ := i1.rd R1 t1
  unfold gRevS at h1
  split at h1
  · rename_i z
    exact ⟨z, r.str, by rw [sizeLine_eq]; exact h1.1, k _ _ _ _ h1.2 m1 R1 (.str _)⟩
  · exact h1.elim
end

/-! ### list(reversed(xs)) -/
section
variable {prog : Program} {w : World} {A : Around} {E : Value → Shared → Prop} {s : Shared}
theorem call_listRev {it l : Addr} {items : Array Value} {Q : Value → Shared → Prop} (hh : A.handled = none) (hit : s.heap.IsRevIter it l ((items.size : Int) - 1)) (hl : s.heap.IsList l items) (hne : l ≠ it) (hn : items.size ≤ sizeLine)
    (hQ : ∀ (h' : Heap) (tk : Nat) (acc : Array Value) (c : Nat), (∀ b o, b ≠ it → s.heap.get? b = some o → h'.get? b = some o) → h'.get? s.heap.objs.size = some { cls := .type "list", dict := none, data := .seq acc c, slots := #[] } →
      ItemsOf (fun i v => items[items.size - 1 - i]? = some v) acc items.size → Q (.ref s.heap.objs.size) { s with heap := h', toks := tk }) :
    wpAny (model prog w) A (call (.type "list") [.ref it]) Q E s := by
  refine callType_codes (Q₁ := fun obj s1 => obj = .ref s.heap.objs.size ∧ s1 = { s with heap := s.heap.push { cls := .type "list", data := .seq #[] } }) F.called_list (F.typeCall_list_1 _) F.entry_list_init (code_list_new _ ⟨rfl, rfl⟩) fun obj s1 h1 => ?_
  obtain ⟨rfl, rfl⟩ := h1
  have W := (Walks.listRev (prog := prog) (w := w) (A := A.in1.in1) hh it l hne items).toS
  obtain ⟨oi, hoi, _⟩ := id hit
  obtain ⟨ol, hol, _⟩ := id hl
  have hSi : s.heap.objs.size ≠ it := Nat.ne_of_gt (Heap.lt_size hoi)
  have hSl : s.heap.objs.size ≠ l := Nat.ne_of_gt (Heap.lt_size hol)
  have hSf : s.heap.objs.size ∉ [it, l] := by
    simp only [List.mem_cons, List.not_mem_nil, or_false, not_or]
    exact ⟨hSi, hSl⟩
  have hS : (s.heap.push { cls := .type "list", data := .seq #[] }).get? s.heap.objs.size = some { cls := .type "list", data := .seq #[] } := Heap.get?_push_size _ rfl
  refine ⟨⟨_, hS, rfl⟩, F.args_list_init_2 _ _, ?_⟩
  show wpAny _ A.in1.in1 (do let old ← Builtin.List.listItems (.ref s.heap.objs.size); Builtin.List.listUpdate (.ref s.heap.objs.size) (fun _ => #[]); letGo old.toList.reverse; Builtin.List.listExtendWith (.ref s.heap.objs.size) (.ref it) .none) _ _ _
  refine wpAny_bind ?_
  unfold Builtin.List.listItems
  refine wpAny_bind (wpAny_seqItems hS rfl (wpAny_pure ?_))
  show wpAny _ A.in1.in1 (updateSeq s.heap.objs.size (fun _ => #[]) >>= fun _ => letGo (#[] : Array Value).toList.reverse >>= fun _ => Builtin.List.listExtendWith (.ref s.heap.objs.size) (.ref it) .none) _ _ _
  refine wpAny_bind (wpAny_updateSeq hS rfl ?_)
  have hS2 := Heap.get?_update_self (Obj.mapSeq (fun _ => (#[] : Array Value))) hS rfl
  have oth : ∀ b o, s.heap.get? b = some o → ((s.heap.push { cls := .type "list", data := .seq #[] }).update s.heap.objs.size (Obj.mapSeq (fun _ => (#[] : Array Value)))).get? b = some o :=
    fun b o e => (Heap.get?_update_other _ _ (Nat.ne_of_gt (Heap.lt_size e))).trans (Heap.get?_push_of_some _ e)
  refine wpAny_bind (wpAny_letGo ?_)
  have hit1 : ((s.heap.push { cls := .type "list", data := .seq #[] }).update s.heap.objs.size (Obj.mapSeq (fun _ => (#[] : Array Value)))).IsRevIter it l ((items.size : Int) - 1) := hit.at fun o e => oth _ _ e
  have hl1 : ((s.heap.push { cls := .type "list", data := .seq #[] }).update s.heap.objs.size (Obj.mapSeq (fun _ => (#[] : Array Value)))).IsList l items := by
    obtain ⟨o, e, r⟩ := hl
    exact ⟨o, oth _ _ e, r⟩
  have hT : ({ s with heap := (s.heap.push { cls := .type "list", data := .seq #[] }).update s.heap.objs.size (Obj.mapSeq (fun _ => (#[] : Array Value))) } : Shared).TypeIs (.ref it) "list_reverseiterator" := Heap.IsRevIter.typeIs hit1
  have h1 : Builtin.List.listSameRef (.ref s.heap.objs.size) (.ref it) = false := by simp [Builtin.List.listSameRef, hSi]
  show wpAny _ A.in1.in1 (Builtin.List.listExtendWith (.ref s.heap.objs.size) (.ref it) .none) _ _ _
  unfold Builtin.List.listExtendWith
  refine wpAny_bind (wpAny_typeOf hT ?_)
  rw [if_neg (by rw [h1]; decide)]
  refine wpAny_bind (wpAny_pyIter_revIter hit1 ?_)
  refine wpAny_bind (wpAny_holding ?_)
  unfold Builtin.List.listLengthHint
  refine wpAny_bind (wpAny_specialOf hT RT.nolen_lri ?_)
  show wpAny _ A.in1.in1 (specialOf (Value.ref it) (Str.ofString "__length_hint__") >>= _) _ _ _
  refine wpAny_bind (wpAny_specialOf hT RT.hint_lri ?_)
  generalize hid : ("list_reverseiterator.__length_hint__" : String) = id0
  wp_delta
  rw [show splitId id0 = some ("list_reverseiterator", "__length_hint__") from by subst hid; decide +kernel]
  subst hid
  refine wpAny_bind (wpAny_isInstance (b := true) hT (by rw [isSubtype_type]; kernel_rfl) ?_)
  refine wpAny_pure ?_
  rw [if_neg (by decide)]
  have e0 : ((items.size : Nat) : Int) - 1 - ((0 : Nat) : Int) = (items.size : Int) - 1 := by omega
  refine wpAny_pure ⟨plainId_quiet F.plain_extend_loop _, codeAny_extend_loopS W hn _ hSf _ items.size 0 _ _ _ rfl (Nat.zero_le _) ⟨Nat.zero_le _, by rw [e0]; exact hit1, hl1⟩ hS2 (ItemsOf.nil _) fun s' acc' c' hm hS' hacc => ?_⟩
  rw [Moved.eq_with hm]
  refine ⟨rfl, hQ s'.heap s'.toks acc' c' (fun b o hb e => hm.heap b o (fun hmem => ?_) (oth b o e)) hS' hacc⟩
  rcases List.mem_cons.mp hmem with e' | hmem
  · exact absurd (Heap.lt_size e) (by rw [e']; exact Nat.lt_irrefl _)
  · exact hb (List.mem_singleton.mp hmem)
end

section
variable {X : Cx}
def tLstRev (K : PySem.W.Frag) (te : TE) : TE := fun σ H Q => te σ H fun v H1 => ∃ (a : Addr) (xs : List V), v = .ref a ∧ SqL K H1 a xs ∧ ∀ q, H1 q = none → Q (.ref q) (upd H1 q (.lst xs.reverse))
theorem pe_lstRev {e : Expr} {te : TE} {p p2 pos pos2 : Pos} (hc : X.calm = true) (hg : Gl X "list") (hm : X.mg "list" = none) (hg2 : Gl X "reversed") (hm2 : X.mg "reversed" = none) (he : PE X e te)
    (hs : starEach [e] X.env = (false, eval e X.env) :: starEach [] X.env := by rfl)
    (hs2 : starEach [.Call (.Name "reversed" p2) [e] [] pos2] X.env = (false, eval (.Call (.Name "reversed" p2) [e] [] pos2) X.env) :: starEach [] X.env := by rfl) :
    PE X (.Call (.Name "list" p) [.Call (.Name "reversed" p2) [e] [] pos2] [] pos) (tLstRev X.K te) := by
  refine ⟨fun pins s σ H Q I h => ?_⟩
  refine Call_ (ld_blt I hg hm boot_list (PyProof.Rows.callWith_type1 (args_cons (Call_ (ld_blt I hg2 hm2 PyProof.Rows.boot_reversed (PyProof.Rows.callWith_type1 (args_cons (thn (he.run pins s σ H _ I h) fun u s1 ⟨v, H1, I1, r1, q1⟩ => args_nil ?_) hs) hs rfl))) hs2) hs2 rfl))
  obtain ⟨a, xs, ev, hq, q⟩ := q1
  subst ev
  obtain rfl : u = Value.ref a := r1
  obtain ⟨its, rv, p', hz⟩ := I1.list hq
  refine call_reversed_list p'.isList (args_nil ?_)
  have k0 : ∀ b o, s1.heap.get? b = some o → (s1.heap.push (revObj a ((its.toArray.size : Int) - 1))).get? b = some o := fun b o e => Heap.get?_push_of_some _ e
  have I2 : Inv X pins σ H1 { s1 with heap := s1.heap.push (revObj a ((its.toArray.size : Int) - 1)) } := I1.kept (t' := s1.toks) k0
  obtain ⟨f0, f1, f2, f3, f4, f5⟩ := I1.fpOk (H' := H1) (b := s1.heap.objs.size) (Nat.le_refl _) (I1.hok.fresh (Nat.le_refl _))
  have hl := p'.isList
  obtain ⟨ol, hol, _⟩ := id hl
  have hne : a ≠ s1.heap.objs.size := Nat.ne_of_lt (Heap.lt_size hol)
  have hn : its.toArray.size ≤ sizeLine := by rw [List.size_toArray, ← rv.length]; exact hz
  refine call_listRev (s := { s1 with heap := s1.heap.push (revObj a ((its.toArray.size : Int) - 1)) }) (I1.ok.hd hc) ⟨_, Heap.get?_push_size _ rfl, rfl, rfl⟩ (hl.push _) hne hn fun h' tk acc c hk hS hi => ?_
  have sz : (s1.heap.push (revObj a ((its.toArray.size : Int) - 1))).objs.size = s1.heap.objs.size + 1 := Heap.size_push ..
  rw [sz] at hS ⊢
  have old : ∀ b o, s1.heap.get? b = some o → h'.get? b = some o := fun b o e => hk b o (Nat.ne_of_lt (Heap.lt_size e)) (k0 b o e)
  refine ⟨.ref (s1.heap.objs.size + 1), upd H1 (s1.heap.objs.size + 1) (.lst xs.reverse), I1.laid (t' := tk) old (Nat.le_succ _) (show ObjOk X.prog X.w _ _ _ (.lst xs.reverse) from ⟨by rw [List.length_reverse]; exact hz, acc.toList, c, RT.vals_rev rv hi, ?_⟩), rfl, q _ (I1.hok.fresh (Nat.le_succ _))⟩
  rw [Array.toArray_toList]
  exact hS
def fLstRev (ta : DT) : DTF := fun ρ q => ta ρ fun o ρ1 => o.rd ρ1 fun d => match d with
  | .list ds => q (.list ds.reverse) ρ1
  | _ => False
theorem dfr_lstRev {e : Expr} {ta : DT} {p p2 pos pos2 : Pos} (hc : X.calm = true) (hg : Gl X "list") (hm : X.mg "list" = none) (hg2 : Gl X "reversed") (hm2 : X.mg "reversed" = none) (ha : DO X e ta)
    (hs : starEach [e] X.env = (false, eval e X.env) :: starEach [] X.env := by rfl)
    (hs2 : starEach [.Call (.Name "reversed" p2) [e] [] pos2] X.env = (false, eval (.Call (.Name "reversed" p2) [e] [] pos2) X.env) :: starEach [] X.env := by rfl) :
    DFr X (.Call (.Name "list" p) [.Call (.Name "reversed" p2) [e] [] pos2] [] pos) (fLstRev ta) := PE.imp (pe_lstRev hc hg hm hg2 hm2 ha hs hs2) fun σ H Q ⟨B, ρ, q, R, t, k⟩ => by
  refine ⟨B, ρ, _, R, t, fun o ρ1 v H1 t1 m1 R1 i1 => ?_⟩
  obtain ⟨d, h1, r⟩ := i1.rd R1 t1
  split at h1
  · rename_i ds
    obtain ⟨a, xs, rfl, e1, is⟩ := r.lst
    refine ⟨a, xs, rfl, SqL.of e1, fun p hp => ?_⟩
    obtain ⟨R3, tp, m3⟩ := R1.fresh hp (.lst is.reverse)
    obtain ⟨f1, f2⟩ := R1.entry hp
    exact k _ _ _ _ h1 f1 f2 (m1.trans m3) R3 tp
  · exact h1.elim
end

/-! ### tuple(xs) of a list -/
section
variable {X : Cx} {e : Expr} {ta : DT} {p pos : Pos}
def gTupOf : D1 := fun d q => match d with
  | .list ds => q (.tuple ds)
  | .tuple ds => q (.tuple ds)
  | _ => False
theorem fit_tupOf {K : PySem.W.Frag} : Fit (fun xs H Q => ∃ p ys, xs = [.ref p] ∧ ((SqL K H p ys ∧ ∀ l, H l = none → Q (.ref l) (upd H l (.tup ys))) ∨ (SqT K H p ys ∧ Q (.ref p) H))) (g1 gTupOf) := fun O H xs ds q Q tr rs h k => by
  unfold g1 at h
  split at h
  · rename_i d
    obtain ⟨x, rfl, r⟩ := rdAll1 rs
    unfold gTupOf at h
    split at h
    · obtain ⟨a, ys, rfl, e2, e3⟩ := r.lst
      exact ⟨a, ys, rfl, .inl ⟨SqL.of e2, fun l hl => k _ _ _ h (same_new hl) (.tup upd_same (e3.mono (.new hl)))⟩⟩
    · obtain ⟨a, ys, rfl, e2, e3⟩ := r.tup
      exact ⟨a, ys, rfl, .inr ⟨SqT.of e2, k _ _ _ h (fun _ _ e => e) (.tup e2 e3)⟩⟩
    · exact h.elim
  · exact h.elim
theorem do_tupOf (hg : Gl X "tuple") (hm : X.mg "tuple" = none) (ha : DO X e ta) (he : starEach [e] X.env = (false, eval e X.env) :: starEach [] X.env := by rfl) : DO X (.Call (.Name "tuple" p) [e] [] pos) (dB1 (g1 gTupOf) (dCons ta dNil)) :=
  do_callTy call_tuple_of fit_tupOf hg hm (by decide +kernel) (da_cons ha da_nil he) (by decide) (by decide) he
end

/-! ### min and max of one list or tuple of integers -/
def intsOf : List PyData → Option (List Int)
  | [] => some []
  | .int i :: ds => (intsOf ds).map (i :: ·)
  | _ :: _ => none
theorem ints_is {O : Addr → Prop} {H : Hp} : ∀ {ds : List PyData} {xs : List V} {is : List Int}, IsAll O H xs ds → intsOf ds = some is → xs = is.map V.int
  | [], xs, is, h, e => by
    cases h
    cases e
    rfl
  | d :: ds, xs, is, h, e => by
    cases h with
    | cons r t =>
      unfold intsOf at e
      split at e
      · rename_i q
        cases q
      · rename_i j ds' q
        cases q
        cases r
        cases e1 : intsOf ds with
        | none => rw [e1] at e; cases e
        | some js =>
          rw [e1] at e
          cases e
          rw [ints_is t e1]
          rfl
      · cases e
/-- a list or a tuple -/
def seq2D : PyData → Option (List PyData)
  | .list ds => some ds
  | .tuple ds => some ds
  | _ => none
def gBestL (f : List Int → Int) : D1 := fun d q => ∃ ds ns, seq2D d = some ds ∧ intsOf ds = some ns ∧ 0 < ns.length ∧ q (.int (f ns))
section
variable {X : Cx} {e : Expr} {ta : DT} {p pos : Pos}
theorem best_of {K : PySem.W.Frag} {O : Addr → Prop} {H : Hp} {x : V} {d : PyData} {ds : List PyData} {ns : List Int} (r : RdB O H x d) (h1 : seq2D d = some ds) (h2 : intsOf ds = some ns) : ∃ a, x = .ref a ∧ (SqL K H a (ns.map V.int) ∨ SqT K H a (ns.map V.int)) := by
  cases d with
  | list l =>
    cases h1
    obtain ⟨a, ys, rfl, e2, e3⟩ := r.lst
    refine ⟨a, rfl, .inl ?_⟩
    rw [← ints_is e3 h2]
    exact SqL.of e2
  | tuple l =>
    cases h1
    obtain ⟨a, ys, rfl, e2, e3⟩ := r.tup
    refine ⟨a, rfl, .inr ?_⟩
    rw [← ints_is e3 h2]
    exact SqT.of e2
  | _ => cases h1
theorem fit_minA {K : PySem.W.Frag} : Fit (rMinA K) (g1 (gBestL minI)) := fun O H xs ds q Q tr rs h k => by
  unfold g1 at h
  split at h
  · rename_i d
    obtain ⟨x, rfl, r⟩ := rdAll1 rs
    obtain ⟨l, ns, h1, h2, h3, h4⟩ := h
    obtain ⟨a, rfl, s⟩ := best_of (K := K) r h1 h2
    exact ⟨a, ns, rfl, s, h3, k _ _ _ h4 (fun _ _ e => e) (.int _)⟩
  · exact h.elim
theorem fit_maxA {K : PySem.W.Frag} : Fit (rMaxA K) (g1 (gBestL maxI)) := fun O H xs ds q Q tr rs h k => by
  unfold g1 at h
  split at h
  · rename_i d
    obtain ⟨x, rfl, r⟩ := rdAll1 rs
    obtain ⟨l, ns, h1, h2, h3, h4⟩ := h
    obtain ⟨a, rfl, s⟩ := best_of (K := K) r h1 h2
    exact ⟨a, ns, rfl, s, h3, k _ _ _ h4 (fun _ _ e => e) (.int _)⟩
  · exact h.elim
theorem do_min1 (hc : X.calm = true) (hg : Gl X "min") (hm : X.mg "min" = none) (ha : DO X e ta) (he : starEach [e] X.env = (false, eval e X.env) :: starEach [] X.env := by rfl) : DO X (.Call (.Name "min" p) [e] [] pos) (dB1 (g1 (gBestL minI)) (dCons ta dNil)) :=
  do_callB (cr_minA hc) fit_minA hg hm (by decide +kernel) (da_cons ha da_nil he) (by decide) (by decide) he
theorem do_max1 (hc : X.calm = true) (hg : Gl X "max") (hm : X.mg "max" = none) (ha : DO X e ta) (he : starEach [e] X.env = (false, eval e X.env) :: starEach [] X.env := by rfl) : DO X (.Call (.Name "max" p) [e] [] pos) (dB1 (g1 (gBestL maxI)) (dCons ta dNil)) :=
  do_callB (cr_maxA hc) fit_maxA hg hm (by decide +kernel) (da_cons ha da_nil he) (by decide) (by decide) he
end
end DL
namespace DL
open PySem PySem.Spec PyProof.Rows L2
/-! ### isinstance of a built-in type -/
def tyD : PyData → String
  | .none => "NoneType"
  | .bool _ => "bool"
  | .int _ => "int"
  | .str _ => "str"
  | .list _ => "list"
  | .tuple _ => "tuple"
  | .dict _ => "dict"
theorem kit_lists (K : PySem.W.Frag) (d : PyData) : PySem.W.kitOne K (.type (tyD d)) (.type "list") = some (tyD d == "list") := by
  cases d <;> rfl
theorem kit_tups (K : PySem.W.Frag) (d : PyData) : PySem.W.kitOne K (.type (tyD d)) (.type "tuple") = some (tyD d == "tuple") := by
  cases d <;> rfl
theorem kit_strs (K : PySem.W.Frag) (d : PyData) : PySem.W.kitOne K (.type (tyD d)) (.type "str") = some (tyD d == "str") := by
  cases d <;> rfl
theorem RdX.ty {K : PySem.W.Frag} {H : Hp} {v : V} {d : PyData} (h : RdX H v d) (nd : ∀ es, d ≠ .dict es) : TyX K H v (.type (tyD d)) := by
  obtain ⟨O, h⟩ := h
  cases h with
  | non => exact .base .non
  | bl b => exact .base (.bl b)
  | int i => exact .base (.int i)
  | str x => exact .base (.str x)
  | lst n r _ => exact .base (.lst r)
  | tup r _ => exact .base (.tup r)
  | dK n r _ => exact absurd rfl (nd _)
  | dT n r _ => exact absurd rfl (nd _)
def noDict : PyData → Bool
  | .dict _ => false
  | _ => true
section
variable {X : Cx} {e : Expr} {ta : DT} {p p2 pos : Pos} {T : Str}
def dIsi (T : String) (ta : DT) : DT := fun ρ q => ta ρ fun o ρ1 => o.rdx ρ1 fun d => noDict d = true ∧ q (.vl (.bool (tyD d == T))) ρ1
theorem do_isi (n : String) (hk : ∀ d, PySem.W.kitOne X.K (.type (tyD d)) (.type n) = some (tyD d == n)) (hg : Gl X "isinstance") (hm : X.mg "isinstance" = none) (hg2 : Gl X T) (hm2 : X.mg T = none) (hv2 : bootBuiltins T = some (.type n)) (ha : DO X e ta)
    (hn2 : T ≠ "__name__" := by decide) (hd2 : (T == ("__debug__" : Str)) = false := by decide)
    (he : starEach [e, .Name T p2] X.env = (false, eval e X.env) :: starEach [.Name T p2] X.env := by rfl) (he2 : starEach [.Name T p2] X.env = (false, eval (.Name T p2) X.env) :: starEach [] X.env := by rfl)
    (hpl : (backTo pos (starEach [.Name T p2] X.env)).any (·.1) = false := by rfl) : DO X (.Call (.Name "isinstance" p) [e, .Name T p2] [] pos) (dIsi n ta) :=
  PE.imp (pe_callB call_isi hg hm (by decide +kernel) (pa_cons ha (pa_cons (pe_bltn (v := .ty n) hg2 hm2 hv2 rfl hn2 hd2) pa_nil he2) he) (by decide) (by decide) he hpl) fun σ H Q ⟨B, ρ, q, R, t, k⟩ => by
  refine ⟨B, ρ, _, R, t, fun o ρ1 v H1 t1 m1 R1 i1 => ?_⟩
  obtain ⟨d, ⟨h1, h2⟩, r⟩ := i1.rdx R1 t1
  exact ⟨v, .ty n, _, _, _, rfl, .ty n, r.ty (fun es e => by rw [e] at h1; cases h1), hk d, k _ _ _ _ h2 m1 R1 (.bl _)⟩
end

/-! ### a def that tells a copy: all its lists new -/
def cpyD : Nat → PyData → Bool
  | _, .none => true
  | _, .bool _ => true
  | _, .int _ => true
  | _, .str _ => true
  | 0, _ => false
  | m + 1, .list ds => decide (ds.length ≤ 16777216) && ds.all (cpyD m)
  | m + 1, .tuple ds => decide (ds.length ≤ 16777216) && ds.all (cpyD m)
  | _ + 1, .dict _ => false
def spCopy (m : Nat) : Sp := fun vs H Q _ => ∃ v d, vs = [v] ∧ RdX H v d ∧ cpyD m d = true ∧ ∀ v' H', Same H H' → Is (fun b => H b ≠ none) H' v' d → Q v' H'
theorem Same.trans' {H H' H'' : Hp} (a : Same H H') (b : Same H' H'') : Same H H'' := fun x o e => b x o (a x o e)
theorem IsAll.weak {O O' : Addr → Prop} {H : Hp} (h : ∀ b, O' b → O b) {vs : List V} {ds : List PyData} (i : IsAll O H vs ds) : IsAll O' H vs ds := i.mono (Adv.sub h)
/-- the list of the copies of what the value at i has -/
def tCopies (i m : Nat) : TE := fun σ H Q => ∃ v d ds, 1 < σ.length ∧ σ[i]? = some (some v) ∧ RdX H v d ∧ seq2D d = some ds ∧ ds.length ≤ 16777216 ∧ ds.all (cpyD m) = true ∧
  ∀ p xs H', H p = none → Same H H' → H' p = some (.lst xs) → IsAll (fun b => H b ≠ none ∨ b = p) H' xs ds → Q (.ref p) H'
theorem seq_of2 {d : PyData} {ds : List PyData} (h : seq2D d = some ds) : seqD d = some ds := by
  cases d <;> first | exact h | cases h
theorem up_copies {K : PySem.W.Frag} {i j m : Nat} {σ : L2.St} {H : Hp} {Q : VK} (hj : j ≤ 1) (h : tCopies i m σ H Q) :
    tLc (iAnyV K (tVar i)) (gName j) tYes (tCall (spCopy m) [] E0 (tCons (tVar j) tNil)) [j] σ H Q := by
  obtain ⟨v, d, ds, h0, h1, ⟨O, is⟩, h3, h4, h5, k⟩ := h
  have hj : j < σ.length := Nat.lt_of_le_of_lt hj h0
  obtain ⟨z, xs0, ev, hq, src⟩ := src_any (K := K) is (seq_of2 h3)
  refine ⟨v, h1, z, xs0, ev, hq, fun D hD => ?_⟩
  refine ⟨fun i' m' H' => i' ≤ ds.length ∧ m' = ds.length - i' ∧ Same H H' ∧ ∃ acc, H' D = some (.lst acc) ∧ IsAll (fun b => H b ≠ none ∨ b = D) H' acc (ds.take i'), ⟨ds.length, Nat.zero_le _, rfl, same_new hD, [], upd_same, .nil⟩, ?_⟩
  rintro i' m' H2 ⟨hi, rfl, hs, acc, hD2, all⟩
  obtain ⟨s1, s2⟩ := src i' O H2 (.same hs)
  by_cases hlt : i' < ds.length
  · obtain ⟨go, yl⟩ := s1 ds[i'] (List.getElem?_eq_getElem hlt)
    refine .inr ⟨go, fun H' => Same H H' ∧ ∃ acc, H' D = some (.lst acc) ∧ IsAll (fun b => H b ≠ none ∨ b = D) H' acc (ds.take (i' + 1)), fun H' ⟨g1, acc', g2, g3⟩ => ⟨ds.length - (i' + 1), by omega, hlt, rfl, g1, acc', g2, g3⟩, fun x H3 hy => ?_⟩
    obtain ⟨hs3, isx⟩ := yl x H3 hy
    show L2.wipe ((L2.wipe σ [j]).set j (some x)) [j] = L2.wipe σ [j] ∧ _
    refine ⟨wipe_only (vs := [j]) (fun k' hk => ?_) (by rw [List.length_set]), ?_⟩
    · exact List.getElem?_set_ne fun e => hk (by simp [e])
    · have sl : (L2.wipe σ [j]).length = σ.length := wipe_length _ _
      have e0 : ((L2.wipe σ [j]).set j (some x))[j]? = some (some x) := by rw [List.getElem?_set_self (by rw [sl]; exact hj)]
      have cd : cpyD m ds[i'] = true := List.all_eq_true.mp h5 _ (List.getElem_mem hlt)
      refine ⟨x, e0, x, ds[i'], rfl, ⟨O, isx⟩, cd, fun y H4 hs4 isy => ?_⟩
      have hD4 : H4 D = some (.lst acc) := hs4 _ _ (hs3 _ _ hD2)
      have la : acc.length = i' := by rw [all.length, List.length_take]; omega
      have s04 : Same H H4 := Same.trans' hs (Same.trans' hs3 hs4)
      refine ⟨acc, hD4, by rw [la, sizeLine_eq]; omega, fun b o e => ?_, acc ++ [y], upd_same, ?_⟩
      · have ne : b ≠ D := fun z => by rw [z, hD] at e; cases e
        rw [upd_ne ne]
        exact s04 b o e
      · have ad : ∀ (O' : Addr → Prop), O' D → Adv O' O' H4 (upd H4 D (.lst (acc ++ [y]))) := fun O' hO => by
          refine ⟨fun b o e kk => ?_, fun _ _ _ z => z⟩
          have ne : b ≠ D := fun z => by
            subst z
            rcases kk with kk | kk
            · exact kk hO
            · rw [hD4] at e; cases e; cases kk
          rw [upd_ne ne]
          exact e
        have all4 : IsAll (fun b => H b ≠ none ∨ b = D) H4 acc (ds.take i') := (all.mono (.same hs3)).mono (.same hs4)
        have y4 : Is (fun b => H b ≠ none ∨ b = D) H4 y ds[i'] := isy.mono (Adv.sub fun b z => by
          rcases z with z | z
          · cases e : H b with
            | none => exact absurd e z
            | some o => rw [hs3 _ _ (hs b o e)]; simp
          · rw [z, hs3 _ _ hD2]; simp)
        rw [List.take_succ_eq_append_getElem hlt]
        exact (all4.mono (ad _ (.inr rfl))).append (.cons (y4.mono (ad _ (.inr rfl))) .nil)
  · have e : ds.take i' = ds := List.take_of_length_le (by omega)
    rw [e] at all
    exact .inl ⟨s2 (by omega), k D acc H2 hD hs hD2 all⟩
section
variable {X : Cx} {pos p1 p2 p3 p4 p5 : Pos} {k m : Nat} {f : Addr} {fd : FuncData} {ps : List Str} {fnm x y : Str} {scope : Scope} {own : List (Str × Nat)}
theorem pe_copies (hc : X.calm = true) (hN : X.N.Nodup) (h0 : X.N[0]? = some x) (h1 : X.N[1]? = some y) (hx : PE X (.Name x p5) (tVar 0)) (ok : BlkOk X.N X.env.scope scope [(y, 1)])
    (hg : ∀ (s : Shared) (H : Hp) (C : Addr) (cl : List (Str × Addr)) (fp : List Addr), PG (X.blk s H scope (compEnvC scope cl C X.env) fp) (.Name y p4) (gName 1))
    (he : ∀ (s : Shared) (H : Hp) (C : Addr) (cl : List (Str × Addr)) (fp : List Addr), PE (X.blk s H scope (compEnvC scope cl C X.env) fp) (.Call (.Name fnm p1) [.Name y p2] [] p3) (tCall (spCopy m) [] E0 (tCons (tVar 1) tNil))) (hs : ∀ z, foldedSetIterable (.Name x p5) X.env z = pure z := by intro _; rfl) :
    PE X (.ListComp (.Call (.Name fnm p1) [.Name y p2] [] p3) [⟨.Name y p4, .Name x p5, [], 0⟩] scope pos) (tCopies 0 m) :=
  PE.imp (pe_lc (own := [(y, 1)]) hc hN (pi_any hx) ok hg (fun _ _ _ _ _ => pts_nil) he hs) fun σ H Q h => up_copies (K := X.K) (Nat.le_refl _) h
def tIsi (n : String) (i : Nat) : TE := fun σ H Q => ∃ v d, σ[i]? = some (some v) ∧ RdX H v d ∧ noDict d = true ∧ Q (.bl (tyD d == n)) H
theorem pe_isi {T : Str} {i : Nat} (n : String) (hk : ∀ d, PySem.W.kitOne X.K (.type (tyD d)) (.type n) = some (tyD d == n)) (hg : Gl X "isinstance") (hm : X.mg "isinstance" = none) (hg2 : Gl X T) (hm2 : X.mg T = none) (hv2 : bootBuiltins T = some (.type n)) (hx : PE X (.Name x p1) (tVar i))
    (hn2 : T ≠ "__name__" := by decide) (hd2 : (T == ("__debug__" : Str)) = false := by decide)
    (he : starEach [.Name x p1, .Name T p2] X.env = (false, eval (.Name x p1) X.env) :: starEach [.Name T p2] X.env := by rfl) (he2 : starEach [.Name T p2] X.env = (false, eval (.Name T p2) X.env) :: starEach [] X.env := by rfl)
    (hpl : (backTo pos (starEach [.Name T p2] X.env)).any (·.1) = false := by rfl) : PE X (.Call (.Name "isinstance" p3) [.Name x p1, .Name T p2] [] pos) (tIsi n i) :=
  PE.imp (pe_callB call_isi hg hm (by decide +kernel) (pa_cons hx (pa_cons (pe_bltn (v := .ty n) hg2 hm2 hv2 rfl hn2 hd2) pa_nil he2) he) (by decide) (by decide) he hpl) fun σ H Q ⟨v, d, e, r, nd, q⟩ =>
    ⟨v, e, v, .ty n, _, _, _, rfl, .ty n, r.ty (fun es z => by rw [z] at nd; cases nd), hk d, q⟩
/-- the reading of the body -/
def tCopyBody (m : Nat) : TS := fun D σ H => ∃ v d, 1 < σ.length ∧ σ[0]? = some (some v) ∧ RdX H v d ∧ cpyD m d = true ∧ ∀ v' H', Same H H' → Is (fun b => H b ≠ none) H' v' d → D.rt v' H'
def rTupOf (K : PySem.W.Frag) : List V → Hp → VK → Prop := fun xs H Q => ∃ p ys, xs = [.ref p] ∧ ((SqL K H p ys ∧ ∀ l, H l = none → Q (.ref l) (upd H l (.tup ys))) ∨ (SqT K H p ys ∧ Q (.ref p) H))
def tCopyCode (K : PySem.W.Frag) (t1 t2 : TS) : TS := tSeq (tIfS (tB (tIsi "list" 0)) t1 tNext) (tSeq (tIfS (tB (tIsi "tuple" 0)) t2 tNext) (tRet (tVar 0)))
theorem up_copy0 {K : PySem.W.Frag} {D : Ends} {σ : L2.St} {H : Hp} (h : tCopyBody 0 D σ H) : tCopyCode K (fun _ _ _ => False) (fun _ _ _ => False) D σ H := by
  obtain ⟨v, d, h0, h1, ⟨O, is⟩, h3, k⟩ := h
  have fl : flat d = true ∧ noDict d = true ∧ (tyD d == "list") = false ∧ (tyD d == "tuple") = false := by
    cases d <;> first | exact ⟨rfl, rfl, rfl, rfl⟩ | cases h3
  obtain ⟨f1, f2, f3, f4⟩ := fl
  refine ⟨v, d, h1, ⟨O, is⟩, f2, _, rfl, ?_⟩
  rw [f3]
  refine ⟨v, d, h1, ⟨O, is⟩, f2, _, rfl, ?_⟩
  rw [f4]
  exact ⟨v, h1, k v H (fun _ _ e => e) (is.flat_any f1)⟩
theorem up_copy1 {K : PySem.W.Frag} {m : Nat} {D : Ends} {σ : L2.St} {H : Hp} (h : tCopyBody (m + 1) D σ H) : tCopyCode K (tRet (tCopies 0 m)) (tRet (tCB (rTupOf K) (tCons (tCopies 0 m) tNil))) D σ H := by
  obtain ⟨v, d, h0, h1, ⟨O, is⟩, h3, k⟩ := h
  have scal : flat d = true → (tyD d == "list") = false → (tyD d == "tuple") = false → noDict d = true → tCopyCode K (tRet (tCopies 0 m)) (tRet (tCB (rTupOf K) (tCons (tCopies 0 m) tNil))) D σ H := fun f1 f3 f4 f2 => by
    refine ⟨v, d, h1, ⟨O, is⟩, f2, _, rfl, ?_⟩
    rw [f3]
    refine ⟨v, d, h1, ⟨O, is⟩, f2, _, rfl, ?_⟩
    rw [f4]
    exact ⟨v, h1, k v H (fun _ _ e => e) (is.flat_any f1)⟩
  cases d with
  | none => exact scal rfl rfl rfl rfl
  | bool b => exact scal rfl rfl rfl rfl
  | int b => exact scal rfl rfl rfl rfl
  | str b => exact scal rfl rfl rfl rfl
  | dict es => cases h3
  | list ds =>
    simp only [cpyD, Bool.and_eq_true, decide_eq_true_eq] at h3
    refine ⟨v, _, h1, ⟨O, is⟩, rfl, _, rfl, ?_⟩
    refine ⟨v, _, ds, h0, h1, ⟨O, is⟩, rfl, h3.1, h3.2, fun p xs H' hp hs hx all => ?_⟩
    exact k _ _ hs (.lst (fun z => z hp) hx (all.weak fun b z => .inl z))
  | tuple ds =>
    simp only [cpyD, Bool.and_eq_true, decide_eq_true_eq] at h3
    refine ⟨v, _, h1, ⟨O, is⟩, rfl, _, rfl, ?_⟩
    refine ⟨v, _, h1, ⟨O, is⟩, rfl, _, rfl, ?_⟩
    refine ⟨v, _, ds, h0, h1, ⟨O, is⟩, rfl, h3.1, h3.2, fun p xs H' hp hs hx all => ?_⟩
    refine ⟨p, xs, rfl, .inl ⟨SqL.of hx, fun l hl => ?_⟩⟩
    exact k _ _ (Same.trans' hs (same_new hl)) (.tup upd_same ((all.weak fun b z => .inl z).mono (.new hl)))
end
/-- the whole def: COPY its statement -/
theorem copy_ok {P : Program} {w : World} {K : PySem.W.Frag} {mg : Str → Option Value} {base : Heap} {f : Addr} {fd : FuncData} {x qual : Str} {params : Arguments} {body : List Stmt} {scope : Scope} (Fn : FunD K x qual params body scope [] [] f fd) (S : FnScope ["thing", "entry"] ["thing"] scope)
    (h0 : ∀ (cdv : Value) (A : Around) (outer : List Env) (s : Shared) (H : Hp) (E : XK), PSs (cxOf CX0 P w K mg base ["thing", "entry"] qual scope f cdv A outer s H E).nox body (tCopyCode K (fun _ _ _ => False) (fun _ _ _ => False)))
    (h1 : ∀ (m : Nat), FnOk P w K mg base CX0 (m + 1) f fd ["thing"] (spCopy m) → ∀ (cdv : Value) (A : Around) (outer : List Env) (s : Shared) (H : Hp) (E : XK), Room (m + 1) (A.deeper (envOfC qual scope s.heap.objs.size f cdv)) →
      PSs (cxOf CX0 P w K mg base ["thing", "entry"] qual scope f cdv A outer s H E).nox body (tCopyCode K (tRet (tCopies 0 m)) (tRet (tCB (rTupOf K) (tCons (tCopies 0 m) tNil))))) :
    ∀ m, FnOk P w K mg base CX0 (m + 1) f fd ["thing"] (spCopy m) := by
  have len : ∀ m vs H Q E, spCopy m vs H Q E → vs.length = ["thing"].length := fun m vs H Q E ⟨v, d, e, _⟩ => by rw [e]; rfl
  have st : ∀ {m : Nat} {vs : List V} {H : Hp} {Q : VK} {E : XK}, spCopy m vs H Q E → tCopyBody m { nx := fun _ H' => Q .non H', rt := Q } (L2.start ["thing", "entry"] vs) H := fun {m vs H Q E} ⟨v, d, e, r, c, k⟩ => by
    subst e
    exact ⟨v, d, by show 1 < 2; omega, rfl, r, c, k⟩
  intro m
  induction m with
  | zero => exact Fn.ok S (len 0) fun cdv A outer s H vs Q E hr h => ⟨_, PSs.nox (h0 cdv A outer s H E), up_copy0 (st h)⟩
  | succ m ih => exact Fn.ok S (len (m + 1)) fun cdv A outer s H vs Q E hr h => ⟨_, PSs.nox (h1 m ih cdv A outer s H E hr), up_copy1 (st h)⟩

/-! ### y = copied(x) -/
section
variable {X : Cx} {e : Expr} {ta : DT} {pos p : Pos} {x : Str} {k m : Nat} {f : Addr} {fd : FuncData} {ps : List Str}
def sSetCopy (i m : Nat) (ta : DT) : DTS := fun E ρ => ta ρ fun o ρ1 => o.rdx ρ1 fun d => cpyD m d = true ∧ putN i d ρ1 E.nx
theorem ds_setCopy {i : Nat} {y : Str} {pos' spos : Pos} (G : FnOk X.prog X.w X.K X.mg X.base CX0 k f fd ps (spCopy m)) (hr : Room k X.A) (hg : Gl X x) (hm : X.mg x = some (.ref f)) (hk : PySem.W.keepIn X.K (.ref f) = true) (hb : Binds X.K fd ps [])
    (ha : DO X e ta) (hN : X.N.Nodup) (hi : X.N[i]? = some y) (hy : Loc X.env.scope y) (hdb : (x == ("__debug__" : Str)) = false := by decide) (he : starEach [e] X.env = (false, eval e X.env) :: starEach [] X.env := by rfl) (hpl : (backTo pos (starEach [] X.env)).any (·.1) = false := by rfl)
    (hs : swapsWith (.Call (.Name x p) [e] [] pos) (some (.Name y pos')) spos.line X.env = pure false := by rfl) (hf : X.fn y = true ∨ X.env.scope.names.lookup y = some .local := by first | exact .inl rfl | exact .inr rfl | assumption) :
    DS X (.Assign [.Name y pos'] (.Call (.Name x p) [e] [] pos) spos) (sSetCopy i m ta) := PS.imp (ps_set hN hi hy (pe_call G hr hg hm hk hb .nil pass0 (pa_cons ha pa_nil he) hdb he hpl) hs hf) fun D σ H ⟨B, ρ, E, R, t, k⟩ => by
  refine ⟨B, ρ, _, R, t, fun o ρ1 v H1 t1 m1 R1 i1 => ?_⟩
  obtain ⟨d, ⟨h1, h2⟩, r⟩ := i1.rdx R1 t1
  refine ⟨v, d, rfl, r, h1, fun v' H' hs hv => ?_⟩
  obtain ⟨ρ2, h3, R2, m2⟩ := putN_rep R1 hs hv h2
  exact k.nx _ _ _ h3 (m1.trans m2) R2
end
end DL
namespace DL
open PySem PySem.Spec PyProof.Rows L2
/-! ### x[j].reverse(), x a copy -/
theorem flats_set0 {ds : List PyData} {j : Nat} {d d' : PyData} : flats (d :: ds) = (flat d && flats ds) := rfl
theorem IsAll.alter {O O' : Addr → Prop} {H H' : Hp} (keep : ∀ v d, flat d = true → Is O H v d → Is O' H' v d) : ∀ {xs : List V} {ds : List PyData} {j : Nat} {x : V} {d' : PyData}, IsAll O H xs ds → flats (ds.set j .none) = true → xs[j]? = some x → Is O' H' x d' → IsAll O' H' xs (ds.set j d')
  | _, _, _, _, _, .nil, _, e, _ => by simp at e
  | _, _, 0, x, d', .cons r t, f, e, i => by
    simp only [List.set_cons_zero, flats, Bool.and_eq_true] at f
    simp only [List.getElem?_cons_zero, Option.some.injEq] at e
    subst e
    have go : ∀ {xs : List V} {ds : List PyData}, IsAll O H xs ds → flats ds = true → IsAll O' H' xs ds := by
      intro xs ds h
      induction xs generalizing ds with
      | nil => intro _; cases h; exact .nil
      | cons y ys ih =>
        intro g
        cases h with
        | cons a b =>
          simp only [flats, Bool.and_eq_true] at g
          exact .cons (keep _ _ g.1 a) (ih b g.2)
    exact .cons i (go t f.2)
  | _, _, j + 1, x, d', .cons r t, f, e, i => by
    simp only [List.set_cons_succ, flats, Bool.and_eq_true] at f
    exact .cons (keep _ _ f.1 r) (IsAll.alter keep t f.2 (by simpa using e) i)
section
variable {X : Cx} {x : Str}
def sDeepRev (i : Nat) (j : Nat) : DTS := fun E ρ => match ρ[i]? with
  | some (some (.deep P (.tuple ds))) => ∃ l, ds[j]? = some (.list l) ∧ flats l = true ∧ flats (ds.set j .none) = true ∧ E.nx (ρ.set i (some (.deep P (.tuple (ds.set j (.list l.reverse))))))
  | _ => False
theorem ds_deepRev {i j : Nat} {kk : Nat} {p1 p2 p apos cpos pos : Pos} (hx : PE X (.Name x p) (tVar i))
    (hbase : attributeBase (.Subscript (.Name x p) (.Constant (.int (j : Nat)) kk p1) p2) "reverse" X.env (eval (.Subscript (.Name x p) (.Constant (.int (j : Nat)) kk p1) p2) X.env) = eval (.Subscript (.Name x p) (.Constant (.int (j : Nat)) kk p1) p2) X.env := by rfl)
    (hline : (apos.endLine == cpos.line) = true := by rfl)
    (hsw : swapsWith (.Call (.Attribute (.Subscript (.Name x p) (.Constant (.int (j : Nat)) kk p1) p2) "reverse" apos) [] [] cpos) none pos.line X.env = pure false := by rfl) (hp : PlainIx (.Constant (.int (j : Nat)) kk p1) := by exact fun _ _ => rfl) :
    DS X (.Expr (.Call (.Attribute (.Subscript (.Name x p) (.Constant (.int (j : Nat)) kk p1) p2) "reverse" apos) [] [] cpos) pos) (sDeepRev i j) :=
  PS.imp (ps_expr (pe_bm0 PySem.F.plainAttrs_list PySem.F.slot_list_reverse PySem.F.type_list_reverse mt_reverse (pe_ix ix_seq hx pe_int hp) hbase hline) hsw) fun D σ H ⟨B, ρ, E, R, t, k⟩ => by
  unfold sDeepRev at t
  split at t
  · rename_i P ds h0
    obtain ⟨l, hl, f1, f2, t⟩ := t
    obtain ⟨v, h1, h2⟩ := R.cel i _ h0
    obtain ⟨a, xs, rfl, g1, g2⟩ := Is.tup' (show Is (fun b => ¬ P b) H v (.tuple ds) from h2)
    obtain ⟨w, e1, e2⟩ := g2.get hl
    cases e2 with
    | @lst q ys _ n r all =>
      have Pq : P q := Classical.byContradiction n
      obtain ⟨⟨oo, ho, ht⟩, hb, hm⟩ := R.adr i _ q h0 Pq
      refine ⟨_, h1, .inr (.inl ⟨a, xs, (j : Nat), .ref q, rfl, rfl, SqT.of g1, atI_nat e1, ?_⟩)⟩
      refine ⟨.inl ⟨rfl, ys, SqL.of r⟩, q, ys, rfl, rfl, r, ?_⟩
      have nt : ∀ b o, H b = some o → isTup o = true → b ≠ q := fun b o e kk z => by
        subst z; rw [r] at e; cases e; cases kk
      have ow : ∀ b, OW B (ρ.set i (some (.deep P (.tuple (ds.set j (.list l.reverse)))))) b → OW B ρ b := fun b z => z.elim .inl fun z => (owns_set z).elim (fun ⟨_, e, z⟩ => by cases e; exact .inr ⟨i, _, h0, z⟩) .inr
      have m : Adv (OW B ρ) (OW B (ρ.set i (some (.deep P (.tuple (ds.set j (.list l.reverse))))))) H (upd H q (.lst ys.reverse)) := by
        refine ⟨fun b o e kk => ?_, fun b o e kk z => kk (ow b z)⟩
        have ne : b ≠ q := by
          rintro rfl
          rcases kk with kk | kk
          · exact kk (.inr ⟨i, _, h0, Pq⟩)
          · exact nt _ o e kk rfl
        rw [upd_ne ne]
        exact e
      have keep : ∀ v d, flat d = true → Is (fun b => ¬ P b) H v d → Is (fun b => ¬ P b) (upd H q (.lst ys.reverse)) v d := fun v d f i => by
        have i1 : Is (fun b => b = q) H v d := i.flat_any f
        have i2 : Is (fun b => b = q) (upd H q (.lst ys.reverse)) v d := i1.mono ⟨fun b o e kk => by
          have ne : b ≠ q := by
            rintro rfl
            rcases kk with kk | kk
            · exact kk rfl
            · exact nt _ o e kk rfl
          rw [upd_ne ne]
          exact e, fun _ _ _ z => z⟩
        exact i2.flat_any f
      have fl : ∀ {xs : List V} {ds : List PyData}, IsAll (fun b => ¬ P b) H xs ds → flats ds = true → IsAll (fun b => ¬ P b) (upd H q (.lst ys.reverse)) xs ds := by
        intro xs ds h
        induction xs generalizing ds with
        | nil => intro _; cases h; exact .nil
        | cons y ys ih =>
          intro g
          cases h with
          | cons a b =>
            simp only [flats, Bool.and_eq_true] at g
            exact .cons (keep _ _ g.1 a) (ih b g.2)
      have inner : Is (fun b => ¬ P b) (upd H q (.lst ys.reverse)) (.ref q) (.list l.reverse) := .lst n upd_same (fl all f1).reverse
      have na : a ≠ q := nt a _ g1 rfl
      have whole : Is (fun b => ¬ P b) (upd H q (.lst ys.reverse)) (.ref a) (.tuple (ds.set j (.list l.reverse))) := .tup (by rw [upd_ne na]; exact g1) (g2.alter keep f2 e1 inner)
      have R2 := R.setCell (i := i) (v := .ref a) (c := .deep P (.tuple (ds.set j (.list l.reverse)))) m whole
        (fun b o z e => by
          have ne : b ≠ q := by
            rintro rfl
            exact hb z
          rw [upd_ne ne]; exact e)
        (fun b o e n' e' => by
          have ne : b ≠ q := by
            rintro rfl
            rcases hm with z | z
            · exact n' z
            · rw [z] at e; cases e
          rw [upd_ne ne]; exact e')
        (fun b z => by
          obtain ⟨⟨o, e, tt⟩, z2, z3⟩ := R.adr i _ b h0 z
          refine ⟨?_, z2, z3⟩
          by_cases y : b = q
          · subst y; exact ⟨_, upd_same, rfl⟩
          · exact ⟨o, by rw [upd_ne y]; exact e, tt⟩)
        (fun jj c' b ne hj z y => ne (R.inj jj i c' _ b hj h0 z y))
        (fun b o e kk => by rw [upd_ne (nt b o e kk)]; exact e)
        (fun jj c' b o ne hj z e => by
          have nb : b ≠ q := by
            rintro rfl
            exact ne (R.inj jj i c' _ b hj h0 z Pq)
          rw [upd_ne nb]; exact e)
      rw [set_same h1] at R2
      exact k.nx _ _ _ t m R2
  · exact t.elim
end
end DL
namespace DL
open PySem PySem.Spec PyProof.Rows L2
/-! ### {k: v}, k a tuple -/
def tDisp1T (tk tv : TE) : TE := fun σ H Q => ∀ p, H p = none → tk σ (upd H p (.dT [])) fun x H1 => tv σ H1 fun y H2 => ∃ b k, x = .ref b ∧ H2 b = some (.tup (k.map kV)) ∧ H2 p = some (.dT []) ∧ Q (.ref p) (upd H2 p (.dT (putK [] k y)))
section
variable {X : Cx} {pos : Pos} {ke ve : Expr} {tk tv : TE}
theorem pe_disp1T (hu : X.A.units + 1 < cLine) (hk : PE X ke tk) (hv : PE X ve tv) : PE X (.Dict [some ke] [ve] pos) (tDisp1T tk tv) := by
  refine ⟨fun pins s σ H Q I q => ?_⟩
  have hn := I.hok.fresh (Nat.le_refl s.heap.objs.size)
  have I1 := I.laid (a := s.heap.objs.size) (o := .dT []) (h' := s.heap.push { cls := .type "dict", data := .dict #[] }) (t' := s.toks) (fun _ _ q => Heap.get?_push_of_some _ q) (Nat.le_refl _) (dt_empty s.heap I.big)
  have hl := pairTrees_length [some ke] [ve] X.env pos rfl rfl
  rw [arm_eval_Dict, zip_pairTrees [some ke] [ve] X.env pos rfl rfl, dictDisplay_pairs (pairTrees [some ke] [ve] X.env pos) (fun e => by rw [e] at hl; cases hl) (by rw [hl]; exact Nat.le_of_ble_eq_true rfl)]
  refine wpAny_bind (wpAny_standAt (wpAny_bind (wpAny_subDictH (knd := tupleKind (mixKind X.prog X.w)) (show X.A.units < cLine by omega) (by rw [hl]; exact Nat.le_of_ble_eq_true rfl) ?_)))
  refine pairTrees_cons_walk (thn (hk.run pins _ σ _ _ I1 (q _ hn)) fun u s1 ⟨x, H1, J1, rx, q1⟩ => thn (hv.run pins s1 σ H1 _ J1 q1) fun w2 s2 ⟨y, H2, J2, ry, b, k, ex, hb, hp, q2⟩ => pairTrees_nil_walk ?_)
  subst ex
  obtain rfl : u = Value.ref b := rx
  obtain ⟨z, hd, xs, rel, dd⟩ := dt_of J2.hok hp
  cases rel
  refine ⟨[(k, b, w2)], ⟨rfl, rfl, key_of J2.hok hb, True.intro⟩, dd, fun h' tk dd' hs => wpAny_pure ⟨.ref s.heap.objs.size, _, ?_, rfl, q2⟩⟩
  have lk : (putK ([] : List (List Key × V)) k y).length ≤ sizeLine := by
    have := length_putK ([] : List (List Key × V)) k y
    rw [sizeLine_eq]
    simp at this
    omega
  obtain ⟨qq, es, ep, hq, h2, h3, h4, _, h5⟩ := dd'
  have r1 : KT H2 (putK [] k y) (storedH [] k b w2) := KT.put (show KT H2 [] [] from .nil) k hb ry
  have J3 : Inv X pins σ (upd H2 s.heap.objs.size (.dT (putK [] k y))) { s2 with heap := h' } := d_write J2 (by rw [hp]; exact True.intro) hs ⟨qq, hq⟩ ⟨lk, hd, _, KT.keeps r1 fun c ys ec => ?_, qq, es, ep, hq, h2, h3, h4, h5⟩
  exact J3.tok _
  all_goals (rw [upd_ne (ne_of ec hp (fun z => nomatch z))]; exact ec)
end
end DL
namespace DL
open PySem PySem.Spec PyProof.Rows L2
/-! ### dicts with tuples as keys, on data -/
def keysEq : List PyData → List PyData → Bool
  | [], [] => true
  | a :: r, b :: s => keyB a b && keysEq r s
  | _, _ => false
def keyBT : PyData → PyData → Bool
  | .tuple a, .tuple b => keysEq a b
  | _, _ => false
def isKeyT : PyData → Bool
  | .tuple ds => keysD ds
  | _ => false
theorem keysEq_kD : ∀ (a b : List Key), keysEq (a.map kD) (b.map kD) = decide (a = b)
  | [], [] => rfl
  | [], b :: s => by simp [keysEq]
  | a :: r, [] => by simp [keysEq]
  | a :: r, b :: s => by
    show (keyB (kD a) (kD b) && keysEq (r.map kD) (s.map kD)) = _
    rw [keyB_kD, keysEq_kD r s]
    by_cases e : a = b
    · subst e; simp
    · simp [e]
theorem keyBT_k (a b : List Key) : keyBT (kTD a) (kTD b) = decide (a = b) := keysEq_kD a b
theorem keyT_of {O : Addr → Prop} {H : Hp} {v : V} {d : PyData} (h : RdB O H v d) (k : isKeyT d = true) : ∃ b q, v = .ref b ∧ H b = some (.tup (q.map kV)) ∧ d = kTD q := by
  cases d with
  | tuple ds =>
    obtain ⟨a, xs, rfl, e1, is⟩ := h.tup
    obtain ⟨ks, rfl, rfl⟩ := keys_is is k
    exact ⟨a, ks, rfl, e1, rfl⟩
  | _ => cases k
def dGetT (es : List (PyData × PyData)) (k : PyData) : Option PyData := dLook es fun e => keyBT e k
def dPutT (es : List (PyData × PyData)) (k d : PyData) : List (PyData × PyData) :=
  if (es.any fun e => keyBT e.1 k) = true then es.map (fun e => if keyBT e.1 k = true then (e.1, d) else e) else es ++ [(k, d)]
theorem IsT.look {O : Addr → Prop} {H : Hp} {kvs : List (List Key × V)} {es : List (PyData × PyData)} (h : IsT O H kvs es) (q : List Key) :
    (∃ v d, valV kvs q = some v ∧ dGetT es (kTD q) = some d ∧ Is O H v d) ∨ (valV kvs q = none ∧ dGetT es (kTD q) = none) := by
  induction kvs generalizing es with
  | nil => cases h; exact .inr ⟨rfl, rfl⟩
  | cons p r ih =>
    cases h with
    | @consT k v _ d ds i t =>
      by_cases e : k = q
      · refine .inl ⟨v, d, valV_pos (p := (k, v)) e, ?_, i⟩
        show ((List.find? (fun e => keyBT e.1 (kTD q)) ((kTD k, d) :: ds)).map (·.2)) = _
        rw [List.find?_cons_of_pos (by show keyBT (kTD k) (kTD q) = true; rw [keyBT_k]; exact decide_eq_true e)]
        rfl
      · have e1 : valV ((k, v) :: r) q = valV r q := valV_neg (p := (k, v)) e
        have e2 : dGetT ((kTD k, d) :: ds) (kTD q) = dGetT ds (kTD q) := by
          show ((List.find? (fun e => keyBT e.1 (kTD q)) ((kTD k, d) :: ds)).map (·.2)) = _
          rw [List.find?_cons_of_neg (by show ¬ keyBT (kTD k) (kTD q) = true; rw [keyBT_k]; simpa using e)]
          rfl
        rw [e1, e2]
        exact ih t
theorem IsT.any {O : Addr → Prop} {H : Hp} {q : List Key} : ∀ {kvs : List (List Key × V)} {es : List (PyData × PyData)}, IsT O H kvs es → (kvs.any fun kv => decide (kv.1 = q)) = es.any fun e => keyBT e.1 (kTD q)
  | _, _, .nilT => rfl
  | _, _, .consT i t => by
    rw [List.any_cons, List.any_cons, keyBT_k, IsT.any t]
theorem IsT.map {O : Addr → Prop} {H : Hp} {q : List Key} {v : V} {d : PyData} (h : Is O H v d) : ∀ {kvs : List (List Key × V)} {es : List (PyData × PyData)}, IsT O H kvs es →
    IsT O H (kvs.map fun kv => if kv.1 = q then (kv.1, v) else kv) (es.map fun e => if keyBT e.1 (kTD q) = true then (e.1, d) else e)
  | _, _, .nilT => .nilT
  | _, _, .consT (k := k) i t => by
    rw [List.map_cons, List.map_cons]
    by_cases e : k = q
    · rw [if_pos e, if_pos (by show keyBT (kTD k) (kTD q) = true; rw [keyBT_k]; exact decide_eq_true e)]
      exact .consT h (IsT.map h t)
    · rw [if_neg e, if_neg (by show ¬ keyBT (kTD k) (kTD q) = true; rw [keyBT_k]; simpa using e)]
      exact .consT i (IsT.map h t)
theorem IsT.append {O : Addr → Prop} {H : Hp} : ∀ {xs ys : List (List Key × V)} {ds es : List (PyData × PyData)}, IsT O H xs ds → IsT O H ys es → IsT O H (xs ++ ys) (ds ++ es)
  | _, _, _, _, .nilT, s => s
  | _, _, _, _, .consT r t, s => .consT r (IsT.append t s)
theorem IsT.put {O : Addr → Prop} {H : Hp} {kvs : List (List Key × V)} {es : List (PyData × PyData)} (h : IsT O H kvs es) (q : List Key) {v : V} {d : PyData} (i : Is O H v d) : IsT O H (putK kvs q v) (dPutT es (kTD q) d) := by
  unfold putK dPutT
  rw [h.any (q := q)]
  split
  · exact h.map i
  · exact h.append (.consT i .nilT)
theorem IsT.length {O : Addr → Prop} {H : Hp} : ∀ {kvs : List (List Key × V)} {es : List (PyData × PyData)}, IsT O H kvs es → kvs.length = es.length
  | _, _, .nilT => rfl
  | _, _, .consT _ t => congrArg Nat.succ (IsT.length t)
section
variable {O : Addr → Prop} {H : Hp} {v : V}
theorem RdB.dicT {es : List (PyData × PyData)} (h : RdB O H v (.dict ((.none, .none) :: es))) : ∃ a kvs, v = .ref a ∧ Rd H a (.dT kvs) ∧ IsT O H kvs es := by
  rcases h with h | ⟨a, rfl, u, e, h⟩
  · cases h with
    | dK n r t => exact absurd t.kd (by simp [kDict])
    | dT n r t => exact ⟨_, _, rfl, r, t⟩
  · cases h with
    | dK t => exact absurd t.kd (by simp [kDict])
    | dT t => exact ⟨_, _, rfl, .inl e, t⟩
theorem Top.dicT {a : Addr} {es : List (PyData × PyData)} (h : Top O H a (.dict ((.none, .none) :: es))) : ∃ kvs, H a = some (.dT kvs) ∧ IsT O H kvs es := by
  obtain ⟨u, e, h⟩ := h
  cases h with
  | dK t => exact absurd t.kd (by simp [kDict])
  | dT t => exact ⟨_, e, t⟩
end
section
variable {X : Cx} {a b c e i : Expr} {es : List Expr} {ta tb tc tk tv : DT} {t : DTA} {pos : Pos} {x : Str}
def gTGet : D2 := fun d e q => match d with
  | .dict ((.none, .none) :: es) => isKeyT e = true ∧ ∃ r, dGetT es e = some r ∧ q r
  | _ => False
theorem tget_of {O : Addr → Prop} {H : Hp} {y : V} {a : Addr} {kvs : List (List Key × V)} {es : List (PyData × PyData)} {e : PyData} (r : Rd H a (.dT kvs)) (t : IsT O H kvs es) (hy : RdB O H y e) (ke : isKeyT e = true) :
    (∃ v d, DGet H a y (some v) ∧ dGetT es e = some d ∧ Is O H v d) ∨ (DGet H a y none ∧ dGetT es e = none) := by
  obtain ⟨b, k, rfl, eb, rfl⟩ := keyT_of hy ke
  rcases t.look k with ⟨v, d, h1, h2, h3⟩ | ⟨h1, h2⟩
  · exact .inl ⟨v, d, .inr ⟨kvs, k, b, r, rfl, eb, h1.symm⟩, h2, h3⟩
  · exact .inr ⟨.inr ⟨kvs, k, b, r, rfl, eb, h1.symm⟩, h2⟩
theorem fit_tget : Fit2 (fun x y H Q => ∃ a v, x = .ref a ∧ DGet H a y (some v) ∧ Q v H) gTGet := fun O H x y d e q Q _ hx hy h k => by
  unfold gTGet at h
  split at h
  · obtain ⟨ke, r, h1, h2⟩ := h
    obtain ⟨a, kvs, rfl, r1, t1⟩ := hx.dicT
    rcases tget_of r1 t1 hy ke with ⟨v, d, g1, g2, g3⟩ | ⟨g1, g2⟩
    · rw [h1] at g2
      cases g2
      exact ⟨a, v, rfl, g1, k _ _ _ h2 (Same.refl _) g3⟩
    · rw [h1] at g2; cases g2
  · exact h.elim
theorem do_tget (hu : X.A.units + 1 < cLine) (ha : DO X a ta) (hb : DO X b tb) (hs : NoSl b) : DO X (.Subscript a b pos) (d2 gTGet ta tb) := PE.imp (pe_dget hu ha hb hs) fun _ _ _ h => up2 fit_tget h
def gTIn (f : Bool → Bool) : D2 := fun e d q => match d with
  | .dict ((.none, .none) :: es) => isKeyT e = true ∧ q (.bool (f (dGetT es e).isSome))
  | _ => False
theorem fit_tin {f : Bool → Bool} : Fit2 (fun y x H Q => ∃ a o, x = .ref a ∧ DGet H a y o ∧ Q (.bl (f o.isSome)) H) (gTIn f) := fun O H y x e d q Q _ hy hx h k => by
  unfold gTIn at h
  split at h
  · obtain ⟨ke, h2⟩ := h
    obtain ⟨a, kvs, rfl, r1, t1⟩ := hx.dicT
    rcases tget_of r1 t1 hy ke with ⟨v, d, g1, g2, g3⟩ | ⟨g1, g2⟩
    · rw [g2] at h2
      exact ⟨a, some v, rfl, g1, k _ _ _ h2 (Same.refl _) (.bl _)⟩
    · rw [g2] at h2
      exact ⟨a, none, rfl, g1, k _ _ _ h2 (Same.refl _) (.bl _)⟩
  · exact h.elim
theorem do_tin (hu : X.A.units + 1 < cLine) (ha : DO X a ta) (hb : DO X b tb) (hm : behindInMarks .In b = false := by rfl) : DO X (.Compare a [.In] [b] pos) (d2 (gTIn id) ta tb) := PE.imp (pe_cmp (pc_din hu ha hb) hm) fun _ _ _ h => up2 fit_tin h
theorem do_tnotin (hu : X.A.units + 1 < cLine) (ha : DO X a ta) (hb : DO X b tb) (hm : behindInMarks .NotIn b = false := by rfl) : DO X (.Compare a [.NotIn] [b] pos) (d2 (gTIn (!·)) ta tb) := PE.imp (pe_cmp (pc_dnotin hu ha hb) hm) fun _ _ _ h => up2 fit_tin h
theorem dp_tin (hu : X.A.units + 1 < cLine) (ha : DO X a ta) (hb : DO X b tb) (hm : behindInMarks .In b = false := by rfl) : DP X (.Compare a [.In] [b] pos) (dB (d2 (gTIn id) ta tb)) := PT.imp (pt_cmp (pc_din hu ha hb) hm) fun _ _ _ h => up2 fit_tin (upB h)
theorem dp_tnotin (hu : X.A.units + 1 < cLine) (ha : DO X a ta) (hb : DO X b tb) (hm : behindInMarks .NotIn b = false := by rfl) : DP X (.Compare a [.NotIn] [b] pos) (dB (d2 (gTIn (!·)) ta tb)) := PT.imp (pt_cmp (pc_dnotin hu ha hb) hm) fun _ _ _ h => up2 fit_tin (upB h)
/-- d[k] = v -/
def sTPut (i : Nat) (tk tv : DT) : DTS := fun E ρ => tv ρ fun o ρ1 => o.tk ρ1 fun d ρ2 => match ρ2[i]? with
  | some (some (.own _ _)) => tk ρ2 fun ok ρ3 => ok.rd ρ3 fun e => match ρ3[i]? with
    | some (some (.own a (.dict ((.none, .none) :: es)))) => isKeyT e = true ∧ es.length < 16777216 ∧ E.nx (ρ3.set i (some (.own a (.dict ((.none, .none) :: dPutT es e d)))))
    | _ => False
  | _ => False
theorem ds_tput {j : Nat} {p pos' : Pos} (hu : X.A.units + 1 < cLine) (hx : PE X (.Name x p) (tVar j)) (hi : DO X i tk) (hv : DO X e tv) (hs : swapsWith e (some (.Subscript (.Name x p) i pos')) pos.line X.env = pure false := by rfl) :
    DS X (.Assign [.Subscript (.Name x p) i pos'] e pos) (sTPut j tk tv) := PS.imp (ps_dput hu hx hi hv hs) fun D σ H ⟨B, ρ, E, R, t, k⟩ => by
  refine ⟨B, ρ, _, R, t, fun o ρ1 v H1 t1 m1 R1 i1 => ?_⟩
  obtain ⟨d, ρ2, h2, is, R2, m2⟩ := i1.tk R1 t1
  split at h2
  · rename_i a0 d0 h0
    obtain ⟨g1, g2, g3, g4⟩ := R2.own j a0 _ h0
    refine ⟨_, g1, B, ρ2, _, R2, h2, fun ok ρ3 w H3 t3 m3 R3 i3 => ?_⟩
    obtain ⟨ek, h4, r4⟩ := i3.rd R3 t3
    split at h4
    · rename_i a1 es hc
      obtain ⟨ke, hl, nx⟩ := h4
      obtain ⟨f1, f2, f3, f4⟩ := R3.own j a1 _ hc
      rw [g1] at f1
      cases f1
      obtain ⟨kvs, hk, all⟩ := f3.dicT
      obtain ⟨b, q, rfl, eb, rfl⟩ := keyT_of r4 ke
      obtain ⟨R4, m4⟩ := R3.write (u := .dT (putK kvs q v)) hc (.dT (all.put q (is.mono m3)))
      refine ⟨a0, _, rfl, DPut.t hk eb (by rw [all.length, sizeLine_eq]; exact hl), k.nx _ _ _ nx (((m1.trans m2).trans m3).trans m4) R4⟩
    · exact h4.elim
  · exact h2.elim
/-- {k: v} -/
def fT1 (tk tv : DT) : DTF := fun ρ q => tk ρ fun ok ρ1 => tv ρ1 fun ov ρ2 => ok.rd ρ2 fun e => ov.tk ρ2 fun d ρ3 => isKeyT e = true ∧ q (.dict [(.none, .none), (e, d)]) ρ3
theorem dfr_t1 (hu : X.A.units + 1 < cLine) (hk : DO X i tk) (hv : DO X e tv) : DFr X (.Dict [some i] [e] pos) (fT1 tk tv) := PE.imp (pe_disp1T hu hk hv) fun σ H Q ⟨B, ρ, q, R, t, k⟩ => fun p hp => by
  obtain ⟨R1, tp, m1⟩ := R.fresh hp (u := .dT []) (.dT .nilT)
  obtain ⟨e1, e2⟩ := R.entry hp
  refine ⟨(B.plus p).re ρ (upd H p (.dT [])), ρ, _, R1.re, t, fun ok ρ1 v1 H1 t1 m2 R2 i1 => ⟨_, ρ1, _, R2, t1, fun ov ρ2 v2 H2 t2 m3 R3 i2 => ?_⟩⟩
  obtain ⟨ek, t3, r3⟩ := (i1.adv m3).rd R3 t2
  obtain ⟨d, ρ3, ⟨ke, t4⟩, is, R4, m4⟩ := i2.tk R3 t3
  have np : ¬ owns ρ p := fun ⟨i, c, h, z⟩ => (R1.adr i c p h z).2.1 (.inr rfl)
  have hp2 : H2 p = some (.dT []) := R4.keep p _ upd_same np
  obtain ⟨b, qk, rfl, eb, rfl⟩ := keyT_of r3 ke
  have R5 : Rep (B.plus p) ρ3 σ H2 := R1.unre R4
  obtain ⟨R6, m6⟩ := R5.writeO (p := p) (u := .dT (putK [] qk v2)) (.inr rfl) e2 rfl
  refine ⟨b, qk, rfl, eb, hp2, ?_⟩
  have mm : Adv (OW (B.plus p) ρ) (OW (B.plus p) ρ3) (upd H p (.dT [])) H2 := (m2.trans m3).trans m4
  exact k _ _ _ _ t4 e1 e2 ((m1.trans mm).trans m6) R6 ⟨_, upd_same, .dT (.consT (Is.mono m6 is) .nilT)⟩
end
end DL
namespace DL
open PySem PySem.Spec PyProof.Rows L2
/-! ### text * int -/
def repS (x : List Nat) (k : Int) : List Nat := (List.replicate k.toNat x).flatten
theorem foldl_cat (a : Array Nat) : ∀ (n : Nat) (acc : Array Nat), ((List.replicate n a).foldl (· ++ ·) acc).toList = acc.toList ++ (List.replicate n a.toList).flatten
  | 0, acc => by simp
  | n + 1, acc => by
    rw [List.replicate_succ, List.foldl_cons, foldl_cat a n, List.replicate_succ, List.flatten_cons, Array.toList_append, List.append_assoc]
theorem mul_rep (z : Str) (k : Int) : Txt.mul z k = mk (repS (L z) k) := by
  unfold Txt.mul repS
  by_cases h : k < 1
  · rw [if_pos h, show k.toNat = 0 by omega]
    rfl
  · rw [if_neg h]
    by_cases h1 : (k == 1 || z.length == 0) = true
    · rw [if_pos h1]
      rcases Bool.or_eq_true .. |>.mp h1 with h2 | h2
      · rw [show k = 1 by simpa using h2]
        simp [mk, L]
      · have e : z.cps = #[] := Array.eq_empty_of_size_eq_zero (by simpa [Str.length] using h2)
        have e2 : z = mk [] := by cases z; cases e; rfl
        subst e2
        have : ∀ n : Nat, (List.replicate n (L (mk []))).flatten = [] := fun n => by simp [L_mk]
        rw [this]
    · rw [if_neg h1]
      show (⟨_⟩ : Str) = ⟨_⟩
      congr 1
      rw [← Array.toArray_toList (xs := (List.replicate k.toNat z.cps).foldl (· ++ ·) #[]), foldl_cat]
      simp [L]
def rMulS : R2 := fun x y H Q => ∃ z k, x = .str z ∧ y = .int k ∧ -(2 ^ 63 : Int) ≤ k ∧ k ≤ 16777216 ∧ z.length * k.toNat ≤ 16777216 ∧ Q (.str (mk (repS (L z) k))) H
theorem op_mulS {X : Cx} : OpR X (binaryOp .Mult) rMulS := by
  intro pins s σ H x y v u Q I rx ry h
  obtain ⟨z, k, rfl, rfl, h1, h2, h3, q⟩ := h
  obtain ⟨t, rfl⟩ := rx
  obtain ⟨t', rfl⟩ := ry
  refine SB.mul (PyProof.Rows.mulOk_of z.length k.toNat (Nat.le_refl _) (by omega) h1 (by omega) h3) fun t' tk => ⟨.str (Txt.mul z k), H, I.tok _, ⟨_, rfl⟩, ?_⟩
  rw [mul_rep]
  exact q
section
variable {X : Cx} {a b : Expr} {ta tb : DT} {pos : Pos}
def gMulS : D2 := fun d e q => match d, e with
  | .str z, .int k => 0 ≤ k ∧ k ≤ 16777216 ∧ (L z).length * k.toNat ≤ 16777216 ∧ q (S (repS (L z) k))
  | _, _ => False
theorem fit_mulS : Fit2 rMulS gMulS := fun O H x y d e q Q _ hx hy h k => by
  unfold gMulS at h
  split at h
  · rename_i z j
    refine ⟨z, j, hx.str, hy.int, by omega, h.2.1, ?_, k _ _ _ h.2.2.2 (Same.refl _) (.str _)⟩
    have := h.2.2.1
    rw [L_len] at this
    exact this
  · exact h.elim
theorem do_mulS (ha : DO X a ta) (hb : DO X b tb) : DO X (.BinOp a .Mult b pos) (d2 gMulS ta tb) := do_op op_mulS fit_mulS ha hb
end
/-- what is known of a copying def -/
structure KnowC (P : Program) (w : World) (K : PySem.W.Frag) (mg : Str → Option Value) (base : Heap) (x : Str) (m : Nat) : Prop where
  ex : ∃ (f : Addr) (fd : FuncData), mg x = some (.ref f) ∧ PySem.W.keepIn K (.ref f) = true ∧ L2.Binds K fd ["thing"] [] ∧ FnOk P w K mg base CX0 (m + 1) f fd ["thing"] (spCopy m)
end DL
namespace DL
open PySem PySem.Spec PyProof.Rows L2
/-! ### list + list -/
section
variable {X : Cx} {a b : Expr} {ta tb : DT} {pos : Pos}
def gCat : D2 := fun d e q => match d, e with
  | .list ds, .list es => ds.length + es.length ≤ 16777216 ∧ q (.list (ds ++ es))
  | _, _ => False
theorem fit_cat : Fit2 rCat gCat := fun O H x y d e q Q hO hx hy h k => by
  unfold gCat at h
  split at h
  · rename_i ds es
    obtain ⟨l, xs, rfl, e1, i1⟩ := hx.lst
    obtain ⟨l2, zs, rfl, e2, i2⟩ := hy.lst
    refine ⟨l, l2, xs, zs, rfl, rfl, e1, e2, by rw [i1.length, i2.length, sizeLine_eq]; exact h.1, fun p hp => k _ _ _ h.2 (same_new hp) ?_⟩
    refine .lst (fun z => ?_) upd_same ((i1.append i2).mono (.new hp))
    obtain ⟨o, e⟩ := hO p z
    rw [hp] at e
    cases e
  · exact h.elim
theorem do_cat (ha : DO X a ta) (hb : DO X b tb) : DO X (.BinOp a .Add b pos) (d2 gCat ta tb) := do_op op_cat fit_cat ha hb
end
end DL
namespace DL
open PySem PySem.Spec PyProof.Rows L2

/-! ### loops, told by an invariant -/
theorem forGo_inv {g : DTG} {u : DTS} {E : DEnds} (I : List PyData → DEnv → Prop) (done : ∀ ρ, I [] ρ → E.nx ρ)
    (step : ∀ d r ρ (N : DEnv → Prop), (∀ ρ', I r ρ' → N ρ') → I (d :: r) ρ → g d ρ fun ρ1 => u { E with nx := N, ct := N, bk := E.nx } ρ1) : ∀ ds ρ, I ds ρ → forGo g u E ds ρ
  | [], ρ, h => done ρ h
  | d :: r, ρ, h => step d r ρ _ (fun ρ' h' => forGo_inv I done step r ρ' h') h
/-- a comprehension that leaves the names as they are -/
theorem lcGo_map {g : DTG} {tt : DTT} {te : DT} {vs : List Nat} {ρ : DEnv} (f : PyData → PyData) (hp : plainC ρ vs = true) : ∀ (ds acc : List PyData) (q : PyData → DEnv → Prop),
    (∀ d ∈ ds, ∀ (Q1 : PyData → DEnv → Prop) (Q2 : DEnv → Prop), (∀ ρ4, backD ρ ρ4 vs = ρ → Q1 (f d) ρ4) → g d (wipeD ρ vs) fun ρ1 => tt ρ1 fun b ρ2 => if b = true then te ρ2 fun o ρ3 => o.tk ρ3 Q1 else Q2 ρ2) →
    acc.length + ds.length ≤ 16777216 → q (.list (acc ++ ds.map f)) ρ → lcGo g tt te vs ds acc ρ q
  | [], acc, q, _, _, h => by
    rw [List.map_nil, List.append_nil] at h
    exact h
  | d :: r, acc, q, step, hl, h => by
    refine step d (List.mem_cons_self ..) _ _ fun ρ4 e => ?_
    rw [List.length_cons] at hl
    refine ⟨by omega, ?_, ?_⟩
    · rw [e]; exact hp
    · rw [e]
      refine lcGo_map f hp r (acc ++ [f d]) q (fun d' hd => step d' (List.mem_cons_of_mem _ hd)) ?_ ?_
      · rw [List.length_append, List.length_singleton]; omega
      · rw [List.append_assoc]
        exact h

/-! ### roads as truths: L is false, R is true -/
def sg (b : Bool) : Nat := if b then 82 else 76
def enc (w : List Bool) : List Nat := w.map sg
abbrev Wd (w : List Bool) : PyData := S (enc w)
theorem enc_len (w : List Bool) : (enc w).length = w.length := List.length_map ..
theorem enc_app (a b : List Bool) : enc (a ++ b) = enc a ++ enc b := List.map_append ..
theorem sg_inj {a b : Bool} (h : sg a = sg b) : a = b := by
  cases a <;> cases b <;> first | rfl | (exact absurd h (by decide))
theorem enc_inj : ∀ {a b : List Bool}, enc a = enc b → a = b
  | [], [], _ => rfl
  | [], _ :: _, h => by cases h
  | _ :: _, [], h => by cases h
  | x :: a, y :: b, h => by
    simp only [enc, List.map_cons, List.cons.injEq] at h
    rw [sg_inj h.1, enc_inj (show enc a = enc b from h.2)]
theorem Wd_inj {a b : List Bool} (h : Wd a = Wd b) : a = b := by
  have : mk (enc a) = mk (enc b) := by injection h
  exact enc_inj (mk_inj this)

/-! ### truths -/
theorem ifb {k : PyData → Prop} {b : Bool} (c : Bool) (h : b = c) (hk : k (.bool c)) : k (.bool b) := by
  subst h
  exact hk
theorem eqv_int (a b : Int) : PyData.eqv (.int a) (.int b) = decide (a = b) := by
  show (a == b) = _
  rw [Bool.eq_iff_iff]; simp
theorem eqv_str (a b : Str) : PyData.eqv (.str a) (.str b) = decide (a = b) := by
  show (a == b) = _
  rw [Bool.eq_iff_iff]; simp
theorem eqv_Wd (a b : List Bool) : PyData.eqv (Wd a) (Wd b) = decide (a = b) := by
  rw [show PyData.eqv (Wd a) (Wd b) = decide (mk (enc a) = mk (enc b)) from eqv_str _ _]
  refine decide_eq_decide.mpr ⟨fun h => enc_inj (mk_inj h), fun h => by rw [h]⟩
theorem strOk_mk {l : List Nat} (h : ∀ c ∈ l, c < 1114112) : PyData.strOk (mk l) = true := by
  unfold PyData.strOk mk
  rw [List.all_toArray, List.all_eq_true]
  intro c hc
  exact decide_eq_true (h c hc)
theorem shaped_S {l : List Nat} (h : ∀ c ∈ l, c < 1114112) : SeqAt.shaped (S l) = true := by
  unfold SeqAt.shaped
  simp only [PyData.canLay0, PyData.depth, strOk_mk h]
  rfl
theorem sg_lt (b : Bool) : sg b < 1114112 := by cases b <;> decide
theorem enc_lt (w : List Bool) : ∀ c ∈ enc w, c < 1114112 := fun c hc => by
  obtain ⟨b, _, rfl⟩ := List.mem_map.mp hc
  exact sg_lt b
theorem shaped_Wd (w : List Bool) : SeqAt.shaped (Wd w) = true := shaped_S (enc_lt w)
theorem shaped_sg (b : Bool) : SeqAt.shaped (S [sg b]) = true := shaped_Wd [b]
theorem shaped_int (i : Int) : SeqAt.shaped (.int i) = true := by
  unfold SeqAt.shaped
  simp [PyData.canLay0, PyData.depth]
def joinN (s : List Nat) : List (List Nat) → List Nat
  | [] => []
  | [p] => p
  | p :: q :: r => p ++ s ++ joinN s (q :: r)
theorem mk_app (a b : List Nat) : mk a ++ mk b = mk (a ++ b) := (L_app (mk a) (mk b)).symm
theorem join_mk (s : List Nat) (ps : List (List Nat)) : Txt.join (mk s) (ps.map mk) = mk (joinN s ps) := by
  have e : Txt.join (mk s) (ps.map mk) = Str.join (mk s) (ps.map mk) := StrLaws.glued_eq_join _ _
  rw [e]
  clear e
  induction ps with
  | nil => rfl
  | cons p r ih =>
    cases r with
    | nil => rfl
    | cons q r =>
      show mk p ++ mk s ++ Str.join (mk s) ((q :: r).map mk) = _
      rw [ih, mk_app, mk_app]
      rfl
theorem joinN_nil : ∀ (ps : List (List Nat)), joinN [] ps = ps.flatten
  | [] => rfl
  | [p] => by simp [joinN]
  | p :: q :: r => by
    show p ++ [] ++ joinN [] (q :: r) = _
    rw [joinN_nil (q :: r), List.append_nil]
    rfl
theorem enc_flat : ∀ (ws : List (List Bool)), (ws.map enc).flatten = enc ws.flatten
  | [] => rfl
  | w :: ws => by
    rw [List.map_cons, List.flatten_cons, enc_flat ws, List.flatten_cons, enc_app]
theorem join_none (ws : List (List Bool)) : Txt.join (mk []) (ws.map fun w => mk (enc w)) = mk (enc ws.flatten) := by
  have e : (ws.map fun w => mk (enc w)) = (ws.map enc).map mk := by rw [List.map_map]; rfl
  rw [e, join_mk, joinN_nil, enc_flat]

/-! ### slices -/
theorem cut_from {α : Type} {xs : List α} {k : Nat} : cutD xs (some (k : Int)) none = xs.drop k := by
  unfold cutD
  rw [HT.sIx_nat, HT.sIx_none]
  by_cases h : k ≤ xs.length
  · rw [Nat.min_eq_left h]
    exact List.take_of_length_le (by rw [List.length_drop]; omega)
  · rw [Nat.min_eq_right (by omega), List.drop_eq_nil_of_le (Nat.le_refl _), List.drop_eq_nil_of_le (show xs.length ≤ k by omega)]
    simp
theorem cut_to {α : Type} {xs : List α} {k : Nat} : cutD xs none (some (k : Int)) = xs.take k := by
  unfold cutD
  rw [HT.sIx_nat, HT.sIx_none, List.drop_zero, Nat.sub_zero]
  by_cases h : k ≤ xs.length
  · rw [Nat.min_eq_left h]
  · rw [Nat.min_eq_right (by omega), List.take_of_length_le (Nat.le_refl _), List.take_of_length_le (show xs.length ≤ k by omega)]
theorem cut_mid {α : Type} {xs : List α} {k j : Nat} (h : j ≤ xs.length) (hk : k ≤ xs.length) : cutD xs (some (k : Int)) (some (j : Int)) = (xs.drop k).take (j - k) := by
  unfold cutD
  rw [HT.sIx_nat, HT.sIx_nat, Nat.min_eq_left h, Nat.min_eq_left hk]
theorem cut_enc (w : List Bool) (lo hi : Option Int) : cutD (enc w) lo hi = enc (cutD w lo hi) := by
  unfold cutD enc
  rw [List.length_map, List.map_take, List.map_drop]
theorem at_enc {w : List Bool} {k : Nat} {b : Bool} (h : w[k]? = some b) : atI (enc w) (k : Int) = some (sg b) := atI_nat (by unfold enc; rw [List.getElem?_map, h]; rfl)

/-! ### while and if, the test told apart -/
theorem while_of {s : DTT} {u : DTS} {E : DEnds} {ρ : DEnv} (W : Nat → DEnv → Prop) (h0 : ∃ m, W m ρ)
    (turn : ∀ m ρ, W m ρ → ∃ b : Bool, (∀ K : Bool → DEnv → Prop, K b ρ → s ρ K) ∧ (b = true → ∀ N : DEnv → Prop, (∀ ρ' m', m' < m → W m' ρ' → N ρ') → u { E with nx := N, ct := N, bk := E.nx } ρ) ∧ (b = false → E.nx ρ)) : sWhile s u E ρ := by
  refine ⟨W, h0, fun m ρ w => ?_⟩
  obtain ⟨b, ht, h1, h2⟩ := turn m ρ w
  refine ht _ ?_
  cases b with
  | true => exact h1 rfl _ fun ρ' m' lt w' => ⟨m', lt, w'⟩
  | false => exact h2 rfl
theorem if_of {s : DTT} {u v : DTS} {E : DEnds} {ρ : DEnv} (b : Bool) (ht : ∀ K : Bool → DEnv → Prop, K b ρ → s ρ K) (h1 : b = true → u E ρ) (h2 : b = false → v E ρ) : sIf s u v E ρ := by
  refine ht _ ?_
  cases b with
  | true => exact h1 rfl
  | false => exact h2 rfl
/-- one statement behind another, the names between them told -/
theorem seq_mid {u v : DTS} {E : DEnds} {ρ : DEnv} (ρ' : DEnv) (h1 : ∀ N : DEnv → Prop, N ρ' → u { E with nx := N } ρ) (h2 : v E ρ') : sSeq u v E ρ := h1 _ h2
end DL
namespace DL
open PySem PySem.Spec PyProof.Rows L2
/-! ### readings, opened by simp -/
/-- simp leaves k as it is in what is told with a tag of k -/
structure Tag {α : Type} (k : α) : Type where
/-- looked up, then k -/
def optP {α : Type} (o : Option α) (k : α → Prop) (_ : Tag k) : Prop := ∃ r, o = some r ∧ k r
@[simp] theorem optP_some {α : Type} {r : α} {k : α → Prop} {t : Tag k} : optP (some r) k t = k r := propext ⟨fun ⟨_, e, h⟩ => by cases e; exact h, fun h => ⟨_, rfl, h⟩⟩
@[simp] theorem optP_none {α : Type} {k : α → Prop} {t : Tag k} : optP none k t = False := propext ⟨fun ⟨_, e, _⟩ => (by cases e), False.elim⟩
@[simp] theorem optP_map {α β : Type} {f : β → α} {o : Option β} {k : α → Prop} {t : Tag k} : optP (o.map f) k t = optP o (fun r => k (f r)) ⟨⟩ := by
  cases o <;> simp
/-- a def's promise is asked; what comes behind it is left as it is -/
def callP (F : DF) (ds : List PyData) (k : PyData → PyData → Prop) (_ : Tag k) : Prop := F ds k
/-- a comprehension's turns -/
def lcP (g : DTG) (tt : DTT) (te : DT) (vs : List Nat) (ds acc : List PyData) (ρ : DEnv) (q : PyData → DEnv → Prop) (_ : Tag q) : Prop := lcGo g tt te vs ds acc ρ q
section
variable {i j l n : Nat} {ρ : DEnv} {E : DEnds} {u v : DTS} {ta tb tc tk tv : DT} {t tr : DTA} {s : DTT} {F : DF} {d e : PyData} {ds es : List PyData} {a : Addr} {tf : DTF} {te : DT} {ti : DTI} {g : DTG} {h : DTGs}
variable {q : OV → DEnv → Prop} {qa : List OV → DEnv → Prop} {qb : Bool → DEnv → Prop} {qd : PyData → Prop} {qf : PyData → DEnv → Prop} {qp : Option Int → DEnv → Prop} {qi : List PyData → DEnv → Prop} {qn : DEnv → Prop} {k : PyData → Prop} {kt : PyData → DEnv → Prop} {c : Cell} {f : Bool → Bool} {p : Addr}
@[simp ↓] theorem e_dN : dN i ρ q = (match ρ[i]? with | some (some _) => q (.nm i) ρ | _ => False) := id rfl
@[simp ↓] theorem e_dC : dC d ρ q = q (.vl d) ρ := id rfl
@[simp ↓] theorem e_d2 {g : D2} : d2 g ta tb ρ q = (ta ρ fun oa ρ1 => tb ρ1 fun ob ρ2 => oa.rd ρ2 fun d => ob.rd ρ2 fun e => g d e fun r => q (.vl r) ρ2) := id rfl
@[simp ↓] theorem e_d2x {g : D2} : d2x g ta tb ρ q = (ta ρ fun oa ρ1 => tb ρ1 fun ob ρ2 => oa.rdx ρ2 fun d => ob.rdx ρ2 fun e => g d e fun r => q (.vl r) ρ2) := id rfl
@[simp ↓] theorem e_d1 {g : D1} : d1 g ta ρ q = (ta ρ fun oa ρ1 => oa.rd ρ1 fun d => g d fun r => q (.vl r) ρ1) := id rfl
@[simp ↓] theorem e_rdv : (OV.vl d).rd ρ k = k d := id rfl
@[simp ↓] theorem e_rdn : (OV.nm i).rd ρ k = (match ρ[i]? with | some (some (.val d)) => k d | some (some (.own _ d)) => k d | _ => False) := id rfl
@[simp ↓] theorem e_rdxv : (OV.vl d).rdx ρ k = k d := id rfl
@[simp ↓] theorem e_rdxn : (OV.nm i).rdx ρ k = (match ρ[i]? with | some (some (.val d)) => k d | some (some (.own _ d)) => k d | some (some (.deep _ d)) => k d | _ => False) := id rfl
@[simp ↓] theorem e_tkv : (OV.vl d).tk ρ kt = kt d ρ := id rfl
@[simp ↓] theorem e_tkn : (OV.nm i).tk ρ kt = (match ρ[i]? with | some (some (.val d)) => kt d ρ | some (some (.own _ d)) => kt d (ρ.set i (some (.val d))) | some (some (.deep _ d)) => kt d (ρ.set i (some (.val d))) | _ => False) := id rfl
@[simp ↓] theorem e_gII {C : Int → Int → Prop} {g : Int → Int → PyData} {x y : Int} : gII C g (.int x) (.int y) qd = (C x y ∧ qd (g x y)) := id rfl
@[simp ↓] theorem e_gAddI {x y : Int} : gAdd (.int x) (.int y) qd = qd (.int (x + y)) := id rfl
@[simp ↓] theorem e_gAddS {x y : Str} : gAdd (.str x) (.str y) qd = ((L x).length + (L y).length ≤ 16777216 ∧ qd (S (L x ++ L y))) := id rfl
@[simp ↓] theorem e_gCat : gCat (.list ds) (.list es) qd = (ds.length + es.length ≤ 16777216 ∧ qd (.list (ds ++ es))) := id rfl
@[simp ↓] theorem e_gNeg {x : Int} : gNeg (.int x) qd = qd (.int (-x)) := id rfl
@[simp ↓] theorem e_gNot {b : Bool} : gNot (.bool b) qd = qd (.bool (!b)) := id rfl
@[simp ↓] theorem e_gMulS {x : Str} {y : Int} : gMulS (.str x) (.int y) qd = (0 ≤ y ∧ y ≤ 16777216 ∧ (L x).length * y.toNat ≤ 16777216 ∧ qd (S (repS (L x) y))) := id rfl
@[simp ↓] theorem e_gEq : gEq f d e qd = (SeqAt.shaped d = true ∧ SeqAt.shaped e = true ∧ qd (.bool (f (PyData.eqv d e)))) := id rfl
@[simp ↓] theorem e_gEqS {x y : Str} : gEqS f (.str x) (.str y) qd = qd (.bool (f (decide (x = y)))) := id rfl
@[simp ↓] theorem e_isNoneN : isNone .none = true := id rfl
@[simp ↓] theorem e_isNoneI {x : Int} : isNone (.int x) = false := id rfl
@[simp ↓] theorem e_isNoneS {x : Str} : isNone (.str x) = false := id rfl
@[simp ↓] theorem e_isNoneB {x : Bool} : isNone (.bool x) = false := id rfl
@[simp ↓] theorem e_isNoneL : isNone (.list ds) = false := id rfl
@[simp ↓] theorem e_isNoneT : isNone (.tuple ds) = false := id rfl
@[simp ↓] theorem e_gIs : gIs f d e qd = (isNone e = true ∧ qd (.bool (f (isNone d)))) := id rfl
@[simp ↓] theorem e_dB : dB ta ρ qb = (ta ρ fun o ρ' => o.rd ρ' fun d => match d with | .bool b => qb b ρ' | _ => False) := id rfl
@[simp ↓] theorem e_dNot : dNot s ρ qb = (s ρ fun b ρ' => qb (!b) ρ') := id rfl
@[simp ↓] theorem e_dAnd {s' : DTT} : dAnd s s' ρ qb = (s ρ fun b ρ' => if b = true then s' ρ' qb else qb false ρ') := id rfl
@[simp ↓] theorem e_dOr {s' : DTT} : dOr s s' ρ qb = (s ρ fun b ρ' => if b = true then qb true ρ' else s' ρ' qb) := id rfl
@[simp ↓] theorem e_dIf : dIf s ta tb ρ q = (s ρ fun b ρ' => if b = true then ta ρ' q else tb ρ' q) := id rfl
@[simp ↓] theorem e_dCh {g h : D2} : dCh g h ta tb tc ρ q = (ta ρ fun oa ρ1 => tb ρ1 fun ob ρ2 => oa.rd ρ2 fun d => ob.rd ρ2 fun e => g d e fun r => match r with
  | .bool b => if b = true then tc ρ2 (fun oc ρ3 => ob.rd ρ3 fun e' => oc.rd ρ3 fun f => h e' f fun r' => q (.vl r') ρ3) else q (.vl (.bool false)) ρ2
  | _ => False) := id rfl
@[simp ↓] theorem e_rdAll0 {k : List PyData → Prop} : rdAll [] ρ k = k [] := id rfl
@[simp ↓] theorem e_rdAll1 {k : List PyData → Prop} {o : OV} {os : List OV} : rdAll (o :: os) ρ k = (o.rd ρ fun d => rdAll os ρ fun ds => k (d :: ds)) := id rfl
@[simp ↓] theorem e_rdX0 {k : List PyData → Prop} : rdAllX [] ρ k = k [] := id rfl
@[simp ↓] theorem e_rdX1 {k : List PyData → Prop} {o : OV} {os : List OV} : rdAllX (o :: os) ρ k = (o.rdx ρ fun d => rdAllX os ρ fun ds => k (d :: ds)) := id rfl
@[simp ↓] theorem e_tkAll0 {k : List PyData → DEnv → Prop} : tkAll [] ρ k = k [] ρ := id rfl
@[simp ↓] theorem e_tkAll1 {k : List PyData → DEnv → Prop} {o : OV} {os : List OV} : tkAll (o :: os) ρ k = (o.tk ρ fun d ρ' => tkAll os ρ' fun ds ρ'' => k (d :: ds) ρ'') := id rfl
@[simp ↓] theorem e_dNil : dNil ρ qa = qa [] ρ := id rfl
@[simp ↓] theorem e_dCons : dCons ta tr ρ qa = (ta ρ fun o ρ1 => tr ρ1 fun os ρ2 => qa (o :: os) ρ2) := id rfl
@[simp ↓] theorem e_dTup : dTup t ρ q = (t ρ fun os ρ1 => tkAll os ρ1 fun ds ρ2 => ds.length ≤ 16777216 ∧ q (.vl (.tuple ds)) ρ2) := id rfl
@[simp ↓] theorem e_dLst : dLst t ρ q = (t ρ fun os ρ1 => tkAll os ρ1 fun ds ρ2 => ds.length ≤ 16777216 ∧ q (.vl (.list ds)) ρ2) := id rfl
@[simp ↓] theorem e_gIxL {x : Int} : gIx (.list ds) (.int x) qd = optP (atI ds x) qd ⟨⟩ := id rfl
@[simp ↓] theorem e_gIxT {x : Int} : gIx (.tuple ds) (.int x) qd = optP (atI ds x) qd ⟨⟩ := id rfl
@[simp ↓] theorem e_gIxS {x : Int} {z : Str} : gIx (.str z) (.int x) qd = ((L z).length ≤ 16777216 ∧ optP (atI (L z) x) (fun c => qd (S [c])) ⟨⟩) := id rfl
@[simp ↓] theorem e_dNoP : dNoP ρ qp = qp none ρ := id rfl
@[simp ↓] theorem e_dPt : dPt ta ρ qp = (ta ρ fun o ρ' => o.rd ρ' fun d => match d with | .int i => qp (some i) ρ' | _ => False) := id rfl
@[simp ↓] theorem e_dSl {tl th : DTO} : dSl ta tl th ρ q = (ta ρ fun oa ρ1 => tl ρ1 fun lo ρ2 => th ρ2 fun hi ρ3 => oa.rd ρ3 fun d => gSl lo hi d fun r => q (.vl r) ρ3) := id rfl
@[simp ↓] theorem e_gSlS {lo hi : Option Int} {x : Str} : gSl lo hi (.str x) qd = ((L x).length ≤ 16777216 ∧ qd (S (cutD (L x) lo hi))) := id rfl
@[simp ↓] theorem e_gSlL {lo hi : Option Int} : gSl lo hi (.list ds) qd = qd (.list (cutD ds lo hi)) := id rfl
@[simp ↓] theorem e_gSlT {lo hi : Option Int} : gSl lo hi (.tuple ds) qd = qd (.tuple (cutD ds lo hi)) := id rfl
@[simp ↓] theorem e_dB1 {g : DG} : dB1 g t ρ q = (t ρ fun os ρ1 => rdAll os ρ1 fun ds => g ds fun r => q (.vl r) ρ1) := id rfl
@[simp ↓] theorem e_g1 {g : D1} : g1 g [d] qd = g d qd := id rfl
@[simp ↓] theorem e_g2 {g : D2} : g2 g [d, e] qd = g d e qd := id rfl
@[simp ↓] theorem e_gLenS {x : Str} : gLen (.str x) qd = ((L x).length ≤ 16777216 ∧ qd (.int ((L x).length : Nat))) := id rfl
@[simp ↓] theorem e_gLenL : gLen (.list ds) qd = qd (.int (ds.length : Nat)) := id rfl
@[simp ↓] theorem e_gLenT : gLen (.tuple ds) qd = qd (.int (ds.length : Nat)) := id rfl
@[simp ↓] theorem e_gAbs {x : Int} : gAbs (.int x) qd = qd (.int (if x < 0 then -x else x)) := id rfl
@[simp ↓] theorem e_gInt {x : Int} : gInt (.int x) qd = qd (.int x) := id rfl
@[simp ↓] theorem e_gAll {f : List Bool → Bool} : gAll f (.list ds) qd = optP (boolsOf ds) (fun bs => qd (.bool (f bs))) ⟨⟩ := id rfl
@[simp ↓] theorem e_gListL : gListOf (.list ds) qd = qd (.list ds) := id rfl
@[simp ↓] theorem e_gListT : gListOf (.tuple ds) qd = qd (.list ds) := id rfl
@[simp ↓] theorem e_gTupL : gTupOf (.list ds) qd = qd (.tuple ds) := id rfl
@[simp ↓] theorem e_gTupT : gTupOf (.tuple ds) qd = qd (.tuple ds) := id rfl
@[simp ↓] theorem e_gBest {f : List Int → Int} : gBestL f d qd = optP (seq2D d) (fun ds => optP (intsOf ds) (fun ns => 0 < ns.length ∧ qd (.int (f ns))) ⟨⟩) ⟨⟩ := propext ⟨fun ⟨ds, ns, h1, h2, h3⟩ => ⟨ds, h1, ns, h2, h3⟩, fun ⟨ds, h1, ns, h2, h3⟩ => ⟨ds, ns, h1, h2, h3⟩⟩
@[simp ↓] theorem e_seq2L : seq2D (.list ds) = some ds := id rfl
@[simp ↓] theorem e_seq2T : seq2D (.tuple ds) = some ds := id rfl
@[simp ↓] theorem e_ints0 : intsOf [] = some [] := id rfl
@[simp ↓] theorem e_ints1 {x : Int} : intsOf (.int x :: ds) = (intsOf ds).map (x :: ·) := id rfl
@[simp ↓] theorem e_dM1 {g : D2} : dM1 g ta tb ρ q = (ta ρ fun oa ρ1 => oa.rd ρ1 fun d => match d with
  | .str x => tb ρ1 fun ob ρ2 => ob.rd ρ2 fun e => g (.str x) e fun r => q (.vl r) ρ2
  | _ => False) := id rfl
@[simp ↓] theorem e_gJoin {x : Str} : gJoin (.str x) (.list ds) qd = optP (strsOf ds) (fun ys => (ys.map (·.length)).sum + ys.length * x.length ≤ 16777216 ∧ qd (.str (Txt.join x ys))) ⟨⟩ := id rfl
@[simp ↓] theorem e_gStarts {x y : Str} : gStarts (.str x) (.str y) qd = qd (.bool (Txt.startswith x y)) := id rfl
@[simp ↓] theorem e_gInS {x y : Str} : gInS f (.str x) (.str y) qd = (∃ c, L x = [c] ∧ qd (.bool (f (decide (c ∈ L y))))) := id rfl
@[simp ↓] theorem e_gRevS {z : Str} : gRevS (.str z) qd = (z.length ≤ 16777216 ∧ qd (.str (mk (L z).reverse))) := id rfl
@[simp ↓] theorem e_dCall : dCall n F t ρ q = (t ρ fun os ρ1 => os.length = n ∧ rdAllX os ρ1 fun ds => callP F ds (fun d _ => (flat d = true ∨ noOwn ρ1 os = true) ∧ q (.vl d) ρ1) ⟨⟩) := id rfl
@[simp ↓] theorem e_noOwn0 : noOwn ρ [] = true := id rfl
@[simp ↓] theorem e_noOwn1 {o : OV} {os : List OV} : noOwn ρ (o :: os) = (noOwn1 ρ o && noOwn ρ os) := id rfl
@[simp ↓] theorem e_noOwnv : noOwn1 ρ (.vl d) = true := id rfl
@[simp ↓] theorem e_noOwnn : noOwn1 ρ (.nm i) = (match ρ[i]? with | some (some (.val _)) => true | _ => false) := id rfl
@[simp ↓] theorem e_dCallM : dCallM n F t ρ q = (t ρ fun os ρ1 => os.length = n ∧ match os with
  | .nm i :: os' => tkAll os' ρ1 fun es ρ2 => (match ρ2[i]? with
    | some (some (.own a d0)) => callP F (d0 :: es) (fun d e => q (.vl d) (ρ2.set i (some (.own a e)))) ⟨⟩
    | _ => False)
  | _ => False) := id rfl
@[simp ↓] theorem e_dCallN : dCallN n F t ρ q = (t ρ fun os ρ1 => os.length = n ∧ rdAllX os ρ1 fun ds => callP F ds (fun d _ => Apart ds d ∧ q (.vl d) ρ1) ⟨⟩) := id rfl
@[simp ↓] theorem e_dKw2 : dKw2 F t ρ q = (t ρ fun os ρ1 => os.length = 2 ∧ rdAllX os ρ1 fun ds => callP F ds.reverse (fun d _ => (flat d = true ∨ noOwn ρ1 os = true) ∧ q (.vl d) ρ1) ⟨⟩) := id rfl
@[simp ↓] theorem e_dKw2N : dKw2N F t ρ q = (t ρ fun os ρ1 => os.length = 2 ∧ rdAllX os ρ1 fun ds => callP F ds.reverse (fun d _ => Apart ds d ∧ q (.vl d) ρ1) ⟨⟩) := id rfl
@[simp ↓] theorem e_dRepr : dRepr ta ρ q = (ta ρ fun o ρ1 => o.rdx ρ1 fun d => Shows d ∧ q (.vl (.str d.shown)) ρ1) := id rfl
@[simp ↓] theorem e_sNext : sNext E ρ = E.nx ρ := id rfl
@[simp ↓] theorem e_sSeq : sSeq u v E ρ = u { E with nx := v E } ρ := id rfl
@[simp ↓] theorem e_sBreak : sBreak E ρ = E.bk ρ := id rfl
@[simp ↓] theorem e_sCont : sCont E ρ = E.ct ρ := id rfl
@[simp ↓] theorem e_sNever : sNever E ρ = False := id rfl
@[simp ↓] theorem e_sDrop : sDrop ta E ρ = (ta ρ fun _ ρ' => E.nx ρ') := id rfl
@[simp ↓] theorem e_sRet : sRet ta E ρ = (ta ρ fun o ρ1 => o.tk ρ1 E.rt) := id rfl
@[simp ↓] theorem e_sRetN : sRetN E ρ = E.rt .none ρ := id rfl
@[simp ↓] theorem e_sIf : sIf s u v E ρ = (s ρ fun b ρ' => if b = true then u E ρ' else v E ρ') := id rfl
@[simp ↓] theorem e_sSet : sSet i ta E ρ = (ta ρ fun o ρ1 => o.tk ρ1 fun d ρ2 => E.nx (ρ2.set i (some (.val d)))) := id rfl
@[simp ↓] theorem e_fLst : fLst t ρ qf = (t ρ fun os ρ1 => tkAll os ρ1 fun ds ρ2 => ds.length ≤ 16777216 ∧ qf (.list ds) ρ2) := id rfl
@[simp ↓] theorem e_sSetF : sSetF i tf E ρ = (tf ρ fun d ρ' => ∀ p, E.nx (ρ'.set i (some (.own p d)))) := id rfl
@[simp ↓] theorem e_sSetV : sSetV i tf E ρ = (tf ρ fun d ρ' => E.nx (ρ'.set i (some (.val d)))) := id rfl
@[simp ↓] theorem e_dOfF : dOfF tf ρ q = (tf ρ fun d ρ' => q (.vl d) ρ') := id rfl
@[simp ↓] theorem e_tgN : tgN i d ρ qn = qn (ρ.set i (some (.val d))) := id rfl
@[simp ↓] theorem e_tgNil : tgNil ds ρ qn = (ds = [] ∧ qn ρ) := id rfl
@[simp ↓] theorem e_tgCons : tgCons g h (d :: ds) ρ qn = (g d ρ fun ρ' => h ds ρ' qn) := id rfl
@[simp ↓] theorem e_tgSeqT : tgSeq n h (.tuple ds) ρ qn = (ds.length = n ∧ h ds ρ qn) := id rfl
@[simp ↓] theorem e_tgSeqL : tgSeq n h (.list ds) ρ qn = (ds.length = n ∧ h ds ρ qn) := id rfl
@[simp ↓] theorem e_sAsg : sAsg ta g E ρ = (ta ρ fun o ρ1 => o.tk ρ1 fun d ρ2 => g d ρ2 E.nx) := id rfl
@[simp ↓] theorem e_sAug {g : D2} : sAug i g ta E ρ = ((OV.nm i).rd ρ fun d => ta ρ fun o ρ1 => o.rd ρ1 fun e => g d e fun r => E.nx (ρ1.set i (some (.val r)))) := id rfl
@[simp ↓] theorem e_iAny : iAny ta ρ qi = (ta ρ fun o ρ1 => o.tk ρ1 fun d ρ2 => optP (seqD d) (fun ds => qi ds ρ2) ⟨⟩) := id rfl
@[simp ↓] theorem e_seqDL : seqD (.list ds) = some ds := id rfl
@[simp ↓] theorem e_seqDT : seqD (.tuple ds) = some ds := id rfl
@[simp ↓] theorem e_forGo0 : forGo g u E [] ρ = E.nx ρ := id rfl
@[simp ↓] theorem e_forGo1 : forGo g u E (d :: ds) ρ = g d ρ fun ρ1 => u { E with nx := fun ρ2 => forGo g u E ds ρ2, ct := fun ρ2 => forGo g u E ds ρ2, bk := E.nx } ρ1 := id rfl
@[simp ↓] theorem e_sFor : sFor ti g u E ρ = (ti ρ fun ds ρ1 => forGo g u E ds ρ1) := id rfl
@[simp ↓] theorem e_fLc {vs : List Nat} : fLc ti g s te vs ρ qf = (ti ρ fun ds ρ1 => plainC ρ1 vs = true ∧ lcP g s te vs ds [] ρ1 qf ⟨⟩) := id rfl
@[simp ↓] theorem e_lcP0 {vs : List Nat} {acc : List PyData} {tg : Tag qf} : lcP g s te vs [] acc ρ qf tg = qf (.list acc) ρ := id rfl
@[simp ↓] theorem e_lcP1 {vs : List Nat} {acc : List PyData} {tg : Tag qf} : lcP g s te vs (d :: ds) acc ρ qf tg = (g d (wipeD ρ vs) fun ρ1 => s ρ1 fun b ρ2 =>
    if b = true then te ρ2 fun o ρ3 => o.tk ρ3 fun e ρ4 => acc.length < 16777216 ∧ plainC (backD ρ ρ4 vs) vs = true ∧ lcP g s te vs ds (acc ++ [e]) (backD ρ ρ4 vs) qf ⟨⟩
    else plainC (backD ρ ρ2 vs) vs = true ∧ lcP g s te vs ds acc (backD ρ ρ2 vs) qf ⟨⟩) := id rfl
@[simp] theorem e_wipe0 : wipeD ρ [] = ρ := id rfl
@[simp] theorem e_wipe1 {vs : List Nat} : wipeD ρ (i :: vs) = wipeD (ρ.set i none) vs := id rfl
@[simp] theorem e_back0 {ρ0 : DEnv} : backD ρ0 ρ [] = ρ := id rfl
@[simp] theorem e_back1 {ρ0 : DEnv} {vs : List Nat} : backD ρ0 ρ (i :: vs) = backD ρ0 (ρ.set i (ρ0.getD i none)) vs := id rfl
@[simp] theorem e_plainC0 : plainC ρ [] = true := id rfl
@[simp] theorem e_plainC1 {vs : List Nat} : plainC ρ (i :: vs) = (plain1 ρ i && plainC ρ vs) := id rfl
@[simp] theorem e_plain1 : plain1 ρ i = (match ρ[i]? with
  | some (some (.own _ _)) => false
  | some (some (.deep _ _)) => false
  | _ => true) := id rfl
@[simp ↓] theorem e_dYes : dYes ρ qb = qb true ρ := id rfl
@[simp ↓] theorem e_sAppend : sAppend i ta E ρ = (match ρ[i]? with
  | some (some (.own _ (.list _))) => ta ρ fun o ρ1 => o.tk ρ1 fun d ρ2 => (match ρ2[i]? with
    | some (some (.own a (.list ds))) => ds.length < 16777216 ∧ E.nx (ρ2.set i (some (.own a (.list (ds ++ [d])))))
    | _ => False)
  | _ => False) := id rfl
@[simp ↓] theorem e_sExtend : sExtend i ta E ρ = (match ρ[i]? with
  | some (some (.own _ (.list _))) => ta ρ fun o ρ1 => o.tk ρ1 fun d ρ2 => (match d with
    | .list es => (match ρ2[i]? with
      | some (some (.own a (.list ds))) => ds.length + es.length ≤ 16777216 ∧ E.nx (ρ2.set i (some (.own a (.list (ds ++ es)))))
      | _ => False)
    | _ => False)
  | _ => False) := id rfl
@[simp ↓] theorem e_sSetIx : sSetIx i ta tb E ρ = (tb ρ fun o ρ1 => o.tk ρ1 fun d ρ2 => match ρ2[i]? with
  | some (some (.own _ _)) => ta ρ2 fun oi ρ3 => oi.rd ρ3 fun di => (match di with
    | .int n => (match ρ3[i]? with
      | some (some (.own a (.list ds))) => optP (ixN ds.length n) (fun j => E.nx (ρ3.set i (some (.own a (.list (ds.set j d)))))) ⟨⟩
      | _ => False)
    | _ => False)
  | _ => False) := id rfl
@[simp ↓] theorem e_dPop : dPop i ρ q = (match ρ[i]? with
  | some (some (.own a (.list ds))) => optP ds[ds.length - 1]? (fun d => q (.vl d) (ρ.set i (some (.own a (.list ds.dropLast))))) ⟨⟩
  | _ => False) := id rfl
@[simp ↓] theorem e_afNil {q : List FV → DEnv → Prop} : afNil ρ q = q [] ρ := id rfl
@[simp ↓] theorem e_afV {tr : DTAF} {q : List FV → DEnv → Prop} : afV ta tr ρ q = (ta ρ fun o ρ1 => o.tk ρ1 fun d ρ2 => tr ρ2 fun fs ρ3 => q (.vl d :: fs) ρ3) := id rfl
@[simp ↓] theorem e_afF {tr : DTAF} {q : List FV → DEnv → Prop} : afF tf tr ρ q = (tf ρ fun d ρ1 => tr ρ1 fun fs ρ2 => q (.fr d :: fs) ρ2) := id rfl
@[simp ↓] theorem e_putV : (FV.vl d).put i ρ qn = qn (ρ.set i (some (.val d))) := id rfl
@[simp ↓] theorem e_putF : (FV.fr d).put i ρ qn = ∀ p, qn (ρ.set i (some (.own p d))) := id rfl
@[simp ↓] theorem e_sPar {t : DTAF} : sPar i j t E ρ = (t ρ fun fs ρ1 => match fs with
  | [f, g] => f.put i ρ1 fun ρ2 => g.put j ρ2 E.nx
  | _ => False) := id rfl
@[simp ↓] theorem e_sPar3 {t : DTAF} : sPar3 i j l t E ρ = (t ρ fun fs ρ1 => match fs with
  | [f, g, h] => f.put i ρ1 fun ρ2 => g.put j ρ2 fun ρ3 => h.put l ρ3 E.nx
  | _ => False) := id rfl
@[simp ↓] theorem e_gDGet {es : List (PyData × PyData)} : gDGet (.dict es) e qd = (kDict es = true ∧ isKey e = true ∧ optP (dGetD es e) qd ⟨⟩) := id rfl
@[simp ↓] theorem e_gDIn {es : List (PyData × PyData)} : gDIn f e (.dict es) qd = (kDict es = true ∧ isKey e = true ∧ qd (.bool (f (dGetD es e).isSome))) := id rfl
@[simp ↓] theorem e_gTGet {es : List (PyData × PyData)} : gTGet (.dict ((.none, .none) :: es)) e qd = (isKeyT e = true ∧ optP (dGetT es e) qd ⟨⟩) := id rfl
@[simp ↓] theorem e_gTIn {es : List (PyData × PyData)} : gTIn f e (.dict ((.none, .none) :: es)) qd = (isKeyT e = true ∧ qd (.bool (f (dGetT es e).isSome))) := id rfl
@[simp ↓] theorem e_sDPut : sDPut i tk tv E ρ = (tv ρ fun o ρ1 => o.tk ρ1 fun d ρ2 => match ρ2[i]? with
  | some (some (.own _ _)) => tk ρ2 fun ok ρ3 => ok.rd ρ3 fun e => (match ρ3[i]? with
    | some (some (.own a (.dict es))) => kDict es = true ∧ isKey e = true ∧ es.length < 16777216 ∧ E.nx (ρ3.set i (some (.own a (.dict (dPutD es e d)))))
    | _ => False)
  | _ => False) := id rfl
@[simp ↓] theorem e_sTPut : sTPut i tk tv E ρ = (tv ρ fun o ρ1 => o.tk ρ1 fun d ρ2 => match ρ2[i]? with
  | some (some (.own _ _)) => tk ρ2 fun ok ρ3 => ok.rd ρ3 fun e => (match ρ3[i]? with
    | some (some (.own a (.dict ((.none, .none) :: es)))) => isKeyT e = true ∧ es.length < 16777216 ∧ E.nx (ρ3.set i (some (.own a (.dict ((.none, .none) :: dPutT es e d)))))
    | _ => False)
  | _ => False) := id rfl
@[simp ↓] theorem e_fD0 : fD0 ρ qf = qf (.dict []) ρ := id rfl
@[simp ↓] theorem e_fD1 : fD1 tk tv ρ qf = (tk ρ fun ok ρ1 => tv ρ1 fun ov ρ2 => ok.rd ρ2 fun e => ov.tk ρ2 fun d ρ3 => isKey e = true ∧ qf (.dict [(e, d)]) ρ3) := id rfl
@[simp ↓] theorem e_fT1 : fT1 tk tv ρ qf = (tk ρ fun ok ρ1 => tv ρ1 fun ov ρ2 => ok.rd ρ2 fun e => ov.tk ρ2 fun d ρ3 => isKeyT e = true ∧ qf (.dict [(.none, .none), (e, d)]) ρ3) := id rfl
@[simp ↓] theorem e_iR1 : iR1 t ρ qi = (t ρ fun os ρ1 => rdAll os ρ1 fun ds => match ds with
  | [.int j] => -4611686018427387904 ≤ j ∧ j < 4611686018427387904 ∧ qi ((List.range j.toNat).map fun k => .int (k : Nat)) ρ1
  | _ => False) := id rfl
@[simp ↓] theorem e_iR2 : iR2 t ρ qi = (t ρ fun os ρ1 => rdAll os ρ1 fun ds => match ds with
  | [.int i, .int j] => (-4611686018427387904 ≤ i ∧ i < 4611686018427387904 ∧ -4611686018427387904 ≤ j ∧ j < 4611686018427387904) ∧ qi ((List.range (j - i).toNat).map fun k => .int (i + (k : Nat))) ρ1
  | _ => False) := id rfl
@[simp ↓] theorem e_iEnum : iEnumD ta ρ qi = (ta ρ fun o ρ1 => o.tk ρ1 fun d ρ2 => match d with
  | .list ds => qi ((List.range ds.length).zipWith (fun k d => .tuple [.int (k : Nat), d]) ds) ρ2
  | _ => False) := id rfl
@[simp ↓] theorem e_sSetN : sSetN i n F t E ρ = (t ρ fun os ρ1 => os.length = n ∧ rdAllX os ρ1 fun ds => callP F ds (fun d _ => Apart ds d ∧ putN i d ρ1 E.nx) ⟨⟩) := id rfl
@[simp ↓] theorem e_sSetCopy {m : Nat} : sSetCopy i m ta E ρ = (ta ρ fun o ρ1 => o.rdx ρ1 fun d => cpyD m d = true ∧ putN i d ρ1 E.nx) := id rfl
@[simp ↓] theorem e_dIsi {T : String} : dIsi T ta ρ q = (ta ρ fun o ρ1 => o.rdx ρ1 fun d => noDict d = true ∧ q (.vl (.bool (tyD d == T))) ρ1) := id rfl
@[simp ↓] theorem e_fListOf : fListOf ta ρ qf = (ta ρ fun o ρ1 => o.rd ρ1 fun d => match d with
  | .list ds => qf (.list ds) ρ1
  | .tuple ds => qf (.list ds) ρ1
  | _ => False) := id rfl
@[simp ↓] theorem e_fLstRev : fLstRev ta ρ qf = (ta ρ fun o ρ1 => o.rd ρ1 fun d => match d with
  | .list ds => qf (.list ds.reverse) ρ1
  | _ => False) := id rfl
@[simp ↓] theorem e_sDeepRev : sDeepRev i j E ρ = (match ρ[i]? with
  | some (some (.deep P (.tuple ds))) => ∃ l, ds[j]? = some (.list l) ∧ flats l = true ∧ flats (ds.set j .none) = true ∧ E.nx (ρ.set i (some (.deep P (.tuple (ds.set j (.list l.reverse))))))
  | _ => False) := id rfl
@[simp ↓] theorem e_iZ2 : iZ2 t ρ qi = (t ρ fun os ρ1 => tkAll os ρ1 fun ds ρ2 => match ds with
  | [x, y] => ∃ xs ys, seqD x = some xs ∧ seqD y = some ys ∧ qi (zip2D xs ys) ρ2
  | _ => False) := id rfl
@[simp ↓] theorem e_startF : startD false a n ds = ds.map (fun d => some (.val d)) ++ List.replicate (n - ds.length) none := id rfl
@[simp ↓] theorem e_startT : startD true a n (d :: ds) = (some (.own a d) :: ds.map fun d => some (.val d)) ++ List.replicate (n - (ds.length + 1)) none := id rfl
@[simp ↓] theorem e_endsFn {q : PyData → PyData → Prop} : (endsD false a q).nx ρ = q .none .none := id rfl
@[simp ↓] theorem e_endsFr {q : PyData → PyData → Prop} : (endsD false a q).rt d ρ = q d .none := id rfl
@[simp ↓] theorem e_endsTn {q : PyData → PyData → Prop} : (endsD true a q).nx ρ = ∃ e, ρ[0]? = some (some (.own a e)) ∧ q .none e := id rfl
@[simp ↓] theorem e_endsTr {q : PyData → PyData → Prop} : (endsD true a q).rt d ρ = ∃ e, ρ[0]? = some (some (.own a e)) ∧ q d e := id rfl
end
/-! ### roads and numbers in the readings -/
@[simp] theorem L_mk' (l : List Nat) : L (mk l) = l := id rfl
@[simp] theorem enc_len' (w : List Bool) : (enc w).length = w.length := enc_len w
@[simp] theorem enc_app' (a b : List Bool) : enc a ++ enc b = enc (a ++ b) := (enc_app a b).symm
@[simp] theorem mk_L76 : mk [76] = mk (enc [false]) := id rfl
@[simp] theorem mk_R82 : mk [82] = mk (enc [true]) := id rfl
@[simp] theorem mk_nil : mk [] = mk (enc []) := id rfl
@[simp] theorem S_L76 : S [76] = Wd [false] := id rfl
@[simp] theorem S_R82 : S [82] = Wd [true] := id rfl
@[simp] theorem S_nil : S [] = Wd [] := id rfl
@[simp] theorem shaped_w (w : List Bool) : SeqAt.shaped (.str (mk (enc w))) = true := shaped_Wd w
@[simp] theorem shaped_i (i : Int) : SeqAt.shaped (.int i) = true := shaped_int i
@[simp] theorem eqv_i (a b : Int) : PyData.eqv (.int a) (.int b) = decide (a = b) := eqv_int a b
@[simp] theorem eqv_w (a b : List Bool) : PyData.eqv (.str (mk (enc a))) (.str (mk (enc b))) = decide (a = b) := eqv_Wd a b
@[simp] theorem mk_enc_inj (a b : List Bool) : mk (enc a) = mk (enc b) ↔ a = b := ⟨fun h => enc_inj (mk_inj h), fun h => by rw [h]⟩
@[simp] theorem atI_n {α : Type} (l : List α) (k : Nat) : atI l (k : Int) = l[k]? := by
  cases h : l[k]? with
  | some r => exact atI_nat h
  | none =>
    have hl := List.getElem?_eq_none_iff.mp h
    cases h2 : ixN l.length (k : Int) with
    | none => unfold atI; rw [h2]; rfl
    | some j =>
      unfold ixN at h2
      rw [if_pos (by omega), if_neg (by omega)] at h2
      cases h2
@[simp] theorem atI_0 {α : Type} (l : List α) : atI l 0 = l[0]? := atI_n l 0
@[simp] theorem atI_1 {α : Type} (l : List α) : atI l 1 = l[1]? := atI_n l 1
@[simp] theorem atI_2 {α : Type} (l : List α) : atI l 2 = l[2]? := atI_n l 2
@[simp] theorem atI_3 {α : Type} (l : List α) : atI l 3 = l[3]? := atI_n l 3
@[simp] theorem flat_i (i : Int) : flat (.int i) = true := id rfl
@[simp] theorem flat_s (x : Str) : flat (.str x) = true := id rfl
@[simp] theorem flat_b (x : Bool) : flat (.bool x) = true := id rfl
@[simp] theorem flat_n : flat .none = true := id rfl
@[simp] theorem flat_t (ds : List PyData) : flat (.tuple ds) = flats ds := id rfl
@[simp] theorem flats_0 : flats [] = true := id rfl
@[simp] theorem flats_1 (d : PyData) (ds : List PyData) : flats (d :: ds) = (flat d && flats ds) := id rfl
@[simp] theorem joinW (ws : List (List Bool)) : Txt.join (mk (enc [])) (ws.map fun w => mk (enc w)) = mk (enc ws.flatten) := join_none ws
@[simp] theorem cast_eq' (a b : Nat) : ((a : Int) = (b : Int)) ↔ a = b := by omega
theorem strsW (ws : List (List Bool)) : strsOf (ws.map Wd) = some (ws.map fun w => mk (enc w)) := by
  induction ws with
  | nil => rfl
  | cons w ws ih =>
    simp only [List.map_cons]
    unfold strsOf
    rw [ih]
    rfl
theorem sumW (ws : List (List Bool)) : ((ws.map fun w => mk (enc w)).map (·.length)).sum = ws.flatten.length := by
  induction ws with
  | nil => rfl
  | cons w ws ih =>
    rw [List.map_cons, List.map_cons, List.sum_cons, ih, List.flatten_cons, List.length_append]
    congr 1
    show (enc w).toArray.size = _
    simp
theorem joinE (ws : List (List Bool)) (q : PyData → Prop) : gJoin (.str (mk [])) (.list (ws.map Wd)) q = (ws.flatten.length ≤ 16777216 ∧ q (Wd ws.flatten)) := by
  show (∃ ys, strsOf (ws.map Wd) = some ys ∧ (ys.map (·.length)).sum + ys.length * (mk []).length ≤ 16777216 ∧ q (.str (Txt.join (mk []) ys))) = _
  have e : ∀ ys : List Str, (ys.map (·.length)).sum + ys.length * (mk []).length = (ys.map (·.length)).sum := fun ys => by
    show (ys.map (·.length)).sum + ys.length * 0 = _
    omega
  refine propext ⟨fun ⟨ys, h1, h2, h3⟩ => ?_, fun ⟨h1, h2⟩ => ⟨_, strsW ws, ?_, ?_⟩⟩
  · rw [strsW] at h1
    cases h1
    rw [e, sumW] at h2
    rw [join_none] at h3
    exact ⟨h2, h3⟩
  · rw [e, sumW]
    exact h1
  · rw [join_none]
    exact h2
@[simp ↓ high] theorem e_joinE {ws : List (List Bool)} {q : PyData → Prop} : gJoin (.str (mk [])) (.list (ws.map Wd)) q = (ws.flatten.length ≤ 16777216 ∧ q (Wd ws.flatten)) := joinE ws q
@[simp ↓ high] theorem e_joinE' {ws : List (List Bool)} {q : PyData → Prop} : gJoin (.str (mk (enc []))) (.list (ws.map Wd)) q = (ws.flatten.length ≤ 16777216 ∧ q (Wd ws.flatten)) := joinE ws q
@[simp] theorem mk_len (l : List Nat) : (mk l).length = l.length := by
  show l.toArray.size = _
  simp
@[simp] theorem enc_rev (w : List Bool) : (enc w).reverse = enc w.reverse := by simp [enc]
@[simp] theorem seqD_w (w : List Bool) : seqD (.str (mk (enc w))) = some (w.map fun b => Wd [b]) := by
  show some _ = _
  congr 1
  show (L (mk (enc w))).map (fun c => S [c]) = _
  rw [L_mk']
  unfold enc
  rw [List.map_map]
  rfl
end DL
namespace DL
open PySem PySem.Spec PyProof.Rows L2
def topS (i : Nat) : Stmt := PySem.Challenge.pw_leftroads_k81_tables_of_machines.main.body.getD i (.Pass ⟨0, 0, 0, 0⟩)
theorem hu_of {k : Nat} {A : Around} (r : Room k A) : A.units + 1 < cLine := by have := r.units; omega
/-! divisor_of -/
abbrev s_divisor_of : Stmt := topS 9
theorem sc_divisor_of : FnScope ["numbers", "found", "number", "rest"] ["numbers"] (defScope s_divisor_of) := ⟨rfl, rfl, rfl, by decide +kernel, rfl, by decide +kernel, by decide +kernel⟩
def t_divisor_of : DTS := (sSeq (sSet 1 (dC (.int 0))) (sSeq (sFor (iAny (dN 0)) (tgN 2) (sSeq (sSet 3 (dB1 (g1 gAbs) (dCons (dN 2) dNil))) (sWhile (dB (d2x (gEq (!·)) (dN 3) (dC (.int 0)))) (sPar 1 3 (afV (dN 3) (afV (d2 gMod (dN 1) (dN 3)) afNil)))))) (sRet (dN 1))))
abbrev PL_divisor_of (F  : DF) : Prop := ∀ (ds : List PyData) (q : PyData → PyData → Prop) (a : Addr), ds.length = 1 → F ds q → (t_divisor_of) (endsD false a q) (startD false a 4 ds)
theorem ok_divisor_of {P : Program} {w : World} {K : PySem.W.Frag} {mg : Str → Option Value} {base : Heap} {f : Addr} {fd : FuncData} {F  : DF} (Fn : FunD K "divisor_of" "divisor_of" (defArgs s_divisor_of) (defBody s_divisor_of) (defScope s_divisor_of) [] [] f fd) (b_abs : mg "abs" = none)
    (pl : PL_divisor_of F) : FnOk P w K mg base CX0 1 f fd ["numbers"] (spD false 1 F) := by
  refine okD Fn sc_divisor_of rfl (fun cdv A outer s H E hr => ?_) pl
  unfold t_divisor_of
  exact (ds_cons (ds_set sc_divisor_of.nd rfl (.inl rfl) do_int) (ds_cons (ds_for .never rfl (di_any (do_nm (pv 0))) (dg_name sc_divisor_of.nd rfl (.inl rfl)) (ds_cons (ds_set sc_divisor_of.nd rfl (.inl rfl) (do_abs rfl b_abs (do_nm (pv 2)))) (ds_one (ds_while .never (dp_ne hr.units (do_nm (pv 3)) do_int) (ds_one (ds_par rfl sc_divisor_of.nd rfl rfl (by decide) rfl rfl (daf_v (do_nm (pv 3)) (daf_v (do_mod (do_nm (pv 1)) (do_nm (pv 3))) daf_nil)) rfl)))))) (ds_one (ds_ret (do_nm (pv 1))))))
/-! has_turns_alone -/
abbrev s_has_turns_alone : Stmt := topS 10
theorem sc_has_turns_alone : FnScope ["word", "sign"] ["word"] (defScope s_has_turns_alone) := ⟨rfl, rfl, rfl, by decide +kernel, rfl, by decide +kernel, by decide +kernel⟩
def t_has_turns_alone : DTS := (sRet (dB1 (g1 (gAll (·.all id))) (dCons (dOfF (fLc (iAny (dN 0)) (tgN 1) dYes (d2 (gInS id) (dN 1) (dC (S [76, 82]))) [1])) dNil)))
abbrev PL_has_turns_alone (F  : DF) : Prop := ∀ (ds : List PyData) (q : PyData → PyData → Prop) (a : Addr), ds.length = 1 → F ds q → (t_has_turns_alone) (endsD false a q) (startD false a 2 ds)
theorem ok_has_turns_alone {P : Program} {w : World} {K : PySem.W.Frag} {mg : Str → Option Value} {base : Heap} {f : Addr} {fd : FuncData} {F  : DF} (Fn : FunD K "has_turns_alone" "has_turns_alone" (defArgs s_has_turns_alone) (defBody s_has_turns_alone) (defScope s_has_turns_alone) [] [] f fd) (b_all : mg "all" = none) (c_TURNS : ∃ t, mg "TURNS" = some (.str (mk [76, 82]) t))
    (pl : PL_has_turns_alone F) : FnOk P w K mg base CX0 1 f fd ["word"] (spD false 1 F) := by
  obtain ⟨t_TURNS, c_TURNS⟩ := c_TURNS
  refine okD Fn sc_has_turns_alone rfl (fun cdv A outer s H E hr => ?_) pl
  unfold t_has_turns_alone
  exact (ds_one (ds_ret (do_all rfl rfl b_all (do_f (dfr_lc (own := [("sign", 1)]) (by decide) rfl sc_has_turns_alone.nd (di_any (do_nm (pv 0))) (blkOk_by (N := ["word", "sign"]) (sc := defScope s_has_turns_alone) (by decide +kernel)) (fun _ _ _ _ _ => (dg_name sc_has_turns_alone.nd rfl (.inl rfl))) (fun _ _ _ _ _ => dts_nil) (fun _ _ _ _ _ => (do_inS (do_nm (pv 1)) (do_glo (v := .str (mk [76, 82])) rfl c_TURNS ⟨_, rfl⟩ (Sc.str _)))))))))
/-! check_road -/
abbrev s_check_road : Stmt := topS 11
theorem sc_check_road : FnScope ["road"] ["road"] (defScope s_check_road) := ⟨rfl, rfl, rfl, by decide +kernel, rfl, by decide +kernel, by decide +kernel⟩
def t_check_road (F_has_turns_alone : DF) : DTS := (sIf (dNot (dB (dCall 1 F_has_turns_alone (dCons (dN 0) dNil)))) sNever sNext)
abbrev PL_check_road (F F_has_turns_alone : DF) : Prop := ∀ (ds : List PyData) (q : PyData → PyData → Prop) (a : Addr), ds.length = 1 → F ds q → (t_check_road F_has_turns_alone) (endsD false a q) (startD false a 1 ds)
theorem ok_check_road {P : Program} {w : World} {K : PySem.W.Frag} {mg : Str → Option Value} {base : Heap} {f : Addr} {fd : FuncData} {F F_has_turns_alone : DF} (Fn : FunD K "check_road" "check_road" (defArgs s_check_road) (defBody s_check_road) (defScope s_check_road) [] [] f fd) (k_has_turns_alone : Know P w K mg base "has_turns_alone" 1 ["word"] false 1 F_has_turns_alone)
    (pl : PL_check_road F F_has_turns_alone) : FnOk P w K mg base CX0 2 f fd ["road"] (spD false 1 F) := by
  obtain ⟨f_has_turns_alone, fd_has_turns_alone, m_has_turns_alone, kp_has_turns_alone, bd_has_turns_alone, G_has_turns_alone⟩ := k_has_turns_alone.ex
  refine okD Fn sc_check_road rfl (fun cdv A outer s H E hr => ?_) pl
  unfold t_check_road
  exact (ds_one (ds_if (dp_not (dp_val (do_call G_has_turns_alone (hr.mono (by decide)) rfl m_has_turns_alone kp_has_turns_alone bd_has_turns_alone (da_cons (do_nm (pv 0)) da_nil)))) (ds_one ds_never) ds_nil))
/-! check_fraction -/
abbrev s_check_fraction : Stmt := topS 12
theorem sc_check_fraction : FnScope ["fraction"] ["fraction"] (defScope s_check_fraction) := ⟨rfl, rfl, rfl, by decide +kernel, rfl, by decide +kernel, by decide +kernel⟩
def t_check_fraction (F_divisor_of : DF) : DTS := (sIf (dOr (dB (d2 gLt (dB1 (g1 (gBestL minI)) (dCons (dN 0) dNil)) (dC (.int 1)))) (dB (d2x (gEq (!·)) (dCall 1 F_divisor_of (dCons (dN 0) dNil)) (dC (.int 1))))) sNever sNext)
abbrev PL_check_fraction (F F_divisor_of : DF) : Prop := ∀ (ds : List PyData) (q : PyData → PyData → Prop) (a : Addr), ds.length = 1 → F ds q → (t_check_fraction F_divisor_of) (endsD false a q) (startD false a 1 ds)
theorem ok_check_fraction {P : Program} {w : World} {K : PySem.W.Frag} {mg : Str → Option Value} {base : Heap} {f : Addr} {fd : FuncData} {F F_divisor_of : DF} (Fn : FunD K "check_fraction" "check_fraction" (defArgs s_check_fraction) (defBody s_check_fraction) (defScope s_check_fraction) [] [] f fd) (k_divisor_of : Know P w K mg base "divisor_of" 1 ["numbers"] false 1 F_divisor_of) (b_min : mg "min" = none)
    (pl : PL_check_fraction F F_divisor_of) : FnOk P w K mg base CX0 2 f fd ["fraction"] (spD false 1 F) := by
  obtain ⟨f_divisor_of, fd_divisor_of, m_divisor_of, kp_divisor_of, bd_divisor_of, G_divisor_of⟩ := k_divisor_of.ex
  refine okD Fn sc_check_fraction rfl (fun cdv A outer s H E hr => ?_) pl
  unfold t_check_fraction
  exact (ds_one (ds_if (dp_w (dw_or (dp_lt (do_min1 rfl rfl b_min (do_nm (pv 0))) do_int) (dw_or1 (dp_ne hr.units (do_call G_divisor_of (hr.mono (by decide)) rfl m_divisor_of kp_divisor_of bd_divisor_of (da_cons (do_nm (pv 0)) da_nil)) do_int)))) (ds_one ds_never) ds_nil))
/-! check_map -/
abbrev s_check_map : Stmt := topS 13
theorem sc_check_map : FnScope ["one", "a", "b", "c", "d"] ["one"] (defScope s_check_map) := ⟨rfl, rfl, rfl, by decide +kernel, rfl, by decide +kernel, by decide +kernel⟩
def t_check_map (F_divisor_of : DF) : DTS := (sSeq (sAsg (dN 0) (tgSeq 4 (tgCons (tgN 1) (tgCons (tgN 2) (tgCons (tgN 3) (tgCons (tgN 4) tgNil)))))) (sIf (dOr (dB (d2 gLt (dB1 (g1 (gBestL minI)) (dCons (dN 0) dNil)) (dC (.int 0)))) (dOr (dB (d2x (gEq id) (d2 gMul (dN 1) (dN 4)) (d2 gMul (dN 2) (dN 3)))) (dB (d2x (gEq (!·)) (dCall 1 F_divisor_of (dCons (dN 0) dNil)) (dC (.int 1)))))) sNever sNext))
abbrev PL_check_map (F F_divisor_of : DF) : Prop := ∀ (ds : List PyData) (q : PyData → PyData → Prop) (a : Addr), ds.length = 1 → F ds q → (t_check_map F_divisor_of) (endsD false a q) (startD false a 5 ds)
theorem ok_check_map {P : Program} {w : World} {K : PySem.W.Frag} {mg : Str → Option Value} {base : Heap} {f : Addr} {fd : FuncData} {F F_divisor_of : DF} (Fn : FunD K "check_map" "check_map" (defArgs s_check_map) (defBody s_check_map) (defScope s_check_map) [] [] f fd) (k_divisor_of : Know P w K mg base "divisor_of" 1 ["numbers"] false 1 F_divisor_of) (b_min : mg "min" = none)
    (pl : PL_check_map F F_divisor_of) : FnOk P w K mg base CX0 2 f fd ["one"] (spD false 1 F) := by
  obtain ⟨f_divisor_of, fd_divisor_of, m_divisor_of, kp_divisor_of, bd_divisor_of, G_divisor_of⟩ := k_divisor_of.ex
  refine okD Fn sc_check_map rfl (fun cdv A outer s H E hr => ?_) pl
  unfold t_check_map
  exact (ds_cons (ds_asg (do_nm (pv 0)) (dg_seq (n := 4) rfl (dgs_cons (dg_name sc_check_map.nd rfl (.inl rfl)) (dgs_cons (dg_name sc_check_map.nd rfl (.inl rfl)) (dgs_cons (dg_name sc_check_map.nd rfl (.inl rfl)) (dgs_cons (dg_name sc_check_map.nd rfl (.inl rfl)) dgs_nil)))))) (ds_one (ds_if (dp_w (dw_or (dp_lt (do_min1 rfl rfl b_min (do_nm (pv 0))) do_int) (dw_or (dp_eq hr.units (do_mul (do_nm (pv 1)) (do_nm (pv 4))) (do_mul (do_nm (pv 2)) (do_nm (pv 3)))) (dw_or1 (dp_ne hr.units (do_call G_divisor_of (hr.mono (by decide)) rfl m_divisor_of kp_divisor_of bd_divisor_of (da_cons (do_nm (pv 0)) da_nil)) do_int))))) (ds_one ds_never) ds_nil)))
/-! check_number -/
abbrev s_check_number : Stmt := topS 14
theorem sc_check_number : FnScope ["number", "least"] ["number", "least"] (defScope s_check_number) := ⟨rfl, rfl, rfl, by decide +kernel, rfl, by decide +kernel, by decide +kernel⟩
def t_check_number : DTS := (sIf (dB (d2 gLt (dN 0) (dN 1))) sNever sNext)
abbrev PL_check_number (F  : DF) : Prop := ∀ (ds : List PyData) (q : PyData → PyData → Prop) (a : Addr), ds.length = 2 → F ds q → (t_check_number) (endsD false a q) (startD false a 2 ds)
theorem ok_check_number {P : Program} {w : World} {K : PySem.W.Frag} {mg : Str → Option Value} {base : Heap} {f : Addr} {fd : FuncData} {F  : DF} (Fn : FunD K "check_number" "check_number" (defArgs s_check_number) (defBody s_check_number) (defScope s_check_number) [] [] f fd)
    (pl : PL_check_number F) : FnOk P w K mg base CX0 1 f fd ["number", "least"] (spD false 2 F) := by
  refine okD Fn sc_check_number rfl (fun cdv A outer s H E hr => ?_) pl
  unfold t_check_number
  exact (ds_one (ds_if (dp_lt (do_nm (pv 0)) (do_nm (pv 1))) (ds_one ds_never) ds_nil))
/-! is_move -/
abbrev s_is_move : Stmt := topS 15
theorem sc_is_move : FnScope ["move", "many", "word", "state"] ["move", "many"] (defScope s_is_move) := ⟨rfl, rfl, rfl, by decide +kernel, rfl, by decide +kernel, by decide +kernel⟩
def t_is_move (F_has_turns_alone : DF) : DTS := (sSeq (sAsg (dN 0) (tgSeq 2 (tgCons (tgN 2) (tgCons (tgN 3) tgNil)))) (sRet (dAndV (dCall 1 F_has_turns_alone (dCons (dN 2) dNil)) (dCh gLe gLt (dC (.int 0)) (dN 3) (dN 1)))))
abbrev PL_is_move (F F_has_turns_alone : DF) : Prop := ∀ (ds : List PyData) (q : PyData → PyData → Prop) (a : Addr), ds.length = 2 → F ds q → (t_is_move F_has_turns_alone) (endsD false a q) (startD false a 4 ds)
theorem ok_is_move {P : Program} {w : World} {K : PySem.W.Frag} {mg : Str → Option Value} {base : Heap} {f : Addr} {fd : FuncData} {F F_has_turns_alone : DF} (Fn : FunD K "is_move" "is_move" (defArgs s_is_move) (defBody s_is_move) (defScope s_is_move) [] [] f fd) (k_has_turns_alone : Know P w K mg base "has_turns_alone" 1 ["word"] false 1 F_has_turns_alone)
    (pl : PL_is_move F F_has_turns_alone) : FnOk P w K mg base CX0 2 f fd ["move", "many"] (spD false 2 F) := by
  obtain ⟨f_has_turns_alone, fd_has_turns_alone, m_has_turns_alone, kp_has_turns_alone, bd_has_turns_alone, G_has_turns_alone⟩ := k_has_turns_alone.ex
  refine okD Fn sc_is_move rfl (fun cdv A outer s H E hr => ?_) pl
  unfold t_is_move
  exact (ds_cons (ds_asg (do_nm (pv 0)) (dg_seq (n := 2) rfl (dgs_cons (dg_name sc_is_move.nd rfl (.inl rfl)) (dgs_cons (dg_name sc_is_move.nd rfl (.inl rfl)) dgs_nil)))) (ds_one (ds_ret (do_and (do_call G_has_turns_alone (hr.mono (by decide)) rfl m_has_turns_alone kp_has_turns_alone bd_has_turns_alone (da_cons (do_nm (pv 2)) da_nil)) (do_one (do_chain op_le op_lt fit_rB0 fit_rB0 do_int (do_nm (pv 3)) (do_nm (pv 1))))))))
/-! check_machine -/
abbrev s_check_machine : Stmt := topS 16
theorem sc_check_machine : FnScope ["machine", "many", "first", "rows", "left", "right", "end"] ["machine"] (defScope s_check_machine) := ⟨rfl, rfl, rfl, by decide +kernel, rfl, by decide +kernel, by decide +kernel⟩
def t_check_machine (F_has_turns_alone F_is_move : DF) : DTS := (sSeq (sAsg (dN 0) (tgSeq 2 (tgCons (tgN 2) (tgCons (tgN 3) tgNil)))) (sSeq (sSet 1 (dB1 (g1 gLen) (dCons (dN 3) dNil))) (sSeq (sIf (dOr (dB (d2x (gEq id) (dN 1) (dC (.int 0)))) (dNot (dB (dCall 1 F_has_turns_alone (dCons (dN 2) dNil))))) sNever sNext) (sFor (iAny (dN 3)) (tgSeq 3 (tgCons (tgN 4) (tgCons (tgN 5) (tgCons (tgN 6) tgNil)))) (sIf (dOr (dNot (dB (dCall 2 F_is_move (dCons (dN 4) (dCons (dN 1) dNil))))) (dOr (dNot (dB (dCall 2 F_is_move (dCons (dN 5) (dCons (dN 1) dNil))))) (dNot (dB (dCall 1 F_has_turns_alone (dCons (dN 6) dNil)))))) sNever sNext)))))
abbrev PL_check_machine (F F_has_turns_alone F_is_move : DF) : Prop := ∀ (ds : List PyData) (q : PyData → PyData → Prop) (a : Addr), ds.length = 1 → F ds q → (t_check_machine F_has_turns_alone F_is_move) (endsD false a q) (startD false a 7 ds)
theorem ok_check_machine {P : Program} {w : World} {K : PySem.W.Frag} {mg : Str → Option Value} {base : Heap} {f : Addr} {fd : FuncData} {F F_has_turns_alone F_is_move : DF} (Fn : FunD K "check_machine" "check_machine" (defArgs s_check_machine) (defBody s_check_machine) (defScope s_check_machine) [] [] f fd) (k_has_turns_alone : Know P w K mg base "has_turns_alone" 1 ["word"] false 1 F_has_turns_alone) (k_is_move : Know P w K mg base "is_move" 2 ["move", "many"] false 2 F_is_move) (b_len : mg "len" = none)
    (pl : PL_check_machine F F_has_turns_alone F_is_move) : FnOk P w K mg base CX0 3 f fd ["machine"] (spD false 1 F) := by
  obtain ⟨f_has_turns_alone, fd_has_turns_alone, m_has_turns_alone, kp_has_turns_alone, bd_has_turns_alone, G_has_turns_alone⟩ := k_has_turns_alone.ex
  obtain ⟨f_is_move, fd_is_move, m_is_move, kp_is_move, bd_is_move, G_is_move⟩ := k_is_move.ex
  refine okD Fn sc_check_machine rfl (fun cdv A outer s H E hr => ?_) pl
  unfold t_check_machine
  exact (ds_cons (ds_asg (do_nm (pv 0)) (dg_seq (n := 2) rfl (dgs_cons (dg_name sc_check_machine.nd rfl (.inl rfl)) (dgs_cons (dg_name sc_check_machine.nd rfl (.inl rfl)) dgs_nil)))) (ds_cons (ds_set sc_check_machine.nd rfl (.inl rfl) (do_len rfl b_len (do_nm (pv 3)))) (ds_cons (ds_if (dp_w (dw_or (dp_eq hr.units (do_nm (pv 1)) do_int) (dw_or1 (dp_not (dp_val (do_call G_has_turns_alone (hr.mono (by decide)) rfl m_has_turns_alone kp_has_turns_alone bd_has_turns_alone (da_cons (do_nm (pv 2)) da_nil))))))) (ds_one ds_never) ds_nil) (ds_one (ds_for .never rfl (di_any (do_nm (pv 3))) (dg_seq (n := 3) rfl (dgs_cons (dg_name sc_check_machine.nd rfl (.inl rfl)) (dgs_cons (dg_name sc_check_machine.nd rfl (.inl rfl)) (dgs_cons (dg_name sc_check_machine.nd rfl (.inl rfl)) dgs_nil)))) (ds_one (ds_if (dp_w (dw_or (dp_not (dp_val (do_call G_is_move (hr.mono (by decide)) rfl m_is_move kp_is_move bd_is_move (da_cons (do_nm (pv 4)) (da_cons (do_nm (pv 1)) da_nil))))) (dw_or (dp_not (dp_val (do_call G_is_move (hr.mono (by decide)) rfl m_is_move kp_is_move bd_is_move (da_cons (do_nm (pv 5)) (da_cons (do_nm (pv 1)) da_nil))))) (dw_or1 (dp_not (dp_val (do_call G_has_turns_alone (hr.mono (by decide)) rfl m_has_turns_alone kp_has_turns_alone bd_has_turns_alone (da_cons (do_nm (pv 6)) da_nil)))))))) (ds_one ds_never) ds_nil)))))))
/-! move_of -/
abbrev s_move_of : Stmt := topS 18
theorem sc_move_of : FnScope ["rows", "state", "turn"] ["rows", "state", "turn"] (defScope s_move_of) := ⟨rfl, rfl, rfl, by decide +kernel, rfl, by decide +kernel, by decide +kernel⟩
def t_move_of : DTS := (sRet (d2 gIx (d2 gIx (dN 0) (dN 1)) (dIf (dB (d2x (gEq id) (dN 2) (dC (S [76])))) (dC (.int 0)) (dC (.int 1)))))
abbrev PL_move_of (F  : DF) : Prop := ∀ (ds : List PyData) (q : PyData → PyData → Prop) (a : Addr), ds.length = 3 → F ds q → (t_move_of) (endsD false a q) (startD false a 3 ds)
theorem ok_move_of {P : Program} {w : World} {K : PySem.W.Frag} {mg : Str → Option Value} {base : Heap} {f : Addr} {fd : FuncData} {F  : DF} (Fn : FunD K "move_of" "move_of" (defArgs s_move_of) (defBody s_move_of) (defScope s_move_of) [] [] f fd)
    (pl : PL_move_of F) : FnOk P w K mg base CX0 1 f fd ["rows", "state", "turn"] (spD false 3 F) := by
  refine okD Fn sc_move_of rfl (fun cdv A outer s H E hr => ?_) pl
  unfold t_move_of
  exact (ds_one (ds_ret (do_ix (do_ix (do_nm (pv 0)) (do_nm (pv 1)) (fun _ _ => rfl)) (do_if (dp_eq hr.units (do_nm (pv 2)) (do_strL [76] (by decide +kernel))) do_int do_int) (fun _ _ => rfl))))
/-! walked_on -/
abbrev s_walked_on : Stmt := topS 19
theorem sc_walked_on : FnScope ["rows", "state", "road", "words", "turn", "word"] ["rows", "state", "road"] (defScope s_walked_on) := ⟨rfl, rfl, rfl, by decide +kernel, rfl, by decide +kernel, by decide +kernel⟩
def t_walked_on (F_move_of : DF) : DTS := (sSeq (sSetF 3 (fLst dNil)) (sSeq (sFor (iAny (dN 2)) (tgN 4) (sSeq (sAsg (dCall 3 F_move_of (dCons (dN 0) (dCons (dN 1) (dCons (dN 4) dNil)))) (tgSeq 2 (tgCons (tgN 5) (tgCons (tgN 1) tgNil)))) (sAppend 3 (dN 5)))) (sRet (dTup (dCons (dM1 gJoin (dC (S [])) (dN 3)) (dCons (dN 1) dNil))))))
abbrev PL_walked_on (F F_move_of : DF) : Prop := ∀ (ds : List PyData) (q : PyData → PyData → Prop) (a : Addr), ds.length = 3 → F ds q → (t_walked_on F_move_of) (endsD false a q) (startD false a 6 ds)
theorem ok_walked_on {P : Program} {w : World} {K : PySem.W.Frag} {mg : Str → Option Value} {base : Heap} {f : Addr} {fd : FuncData} {F F_move_of : DF} (Fn : FunD K "walked_on" "walked_on" (defArgs s_walked_on) (defBody s_walked_on) (defScope s_walked_on) [] [] f fd) (k_move_of : Know P w K mg base "move_of" 1 ["rows", "state", "turn"] false 3 F_move_of)
    (pl : PL_walked_on F F_move_of) : FnOk P w K mg base CX0 2 f fd ["rows", "state", "road"] (spD false 3 F) := by
  obtain ⟨f_move_of, fd_move_of, m_move_of, kp_move_of, bd_move_of, G_move_of⟩ := k_move_of.ex
  refine okD Fn sc_walked_on rfl (fun cdv A outer s H E hr => ?_) pl
  unfold t_walked_on
  exact (ds_cons (ds_setF sc_walked_on.nd rfl (.inl rfl) (dfr_lst da_nil)) (ds_cons (ds_for .never rfl (di_any (do_nm (pv 2))) (dg_name sc_walked_on.nd rfl (.inl rfl)) (ds_cons (ds_asg (do_call G_move_of (hr.mono (by decide)) rfl m_move_of kp_move_of bd_move_of (da_cons (do_nm (pv 0)) (da_cons (do_nm (pv 1)) (da_cons (do_nm (pv 4)) da_nil)))) (dg_seq (n := 2) rfl (dgs_cons (dg_name sc_walked_on.nd rfl (.inl rfl)) (dgs_cons (dg_name sc_walked_on.nd rfl (.inl rfl)) dgs_nil)))) (ds_one (ds_append (pv 3) (do_nm (pv 5)))))) (ds_one (ds_ret (do_tup (da_cons (do_join (do_strL [] (by decide +kernel)) (do_nm (pv 3))) (da_cons (do_nm (pv 1)) da_nil)))))))
/-! road_of -/
abbrev s_road_of : Stmt := topS 21
theorem sc_road_of : FnScope ["fraction", "pieces", "above", "below", "steps"] ["fraction"] (defScope s_road_of) := ⟨rfl, rfl, rfl, by decide +kernel, rfl, by decide +kernel, by decide +kernel⟩
def t_road_of (F_check_fraction : DF) : DTS := (sSeq (sDrop (dCall 1 F_check_fraction (dCons (dN 0) dNil))) (sSeq (sAsg (dN 0) (tgSeq 2 (tgCons (tgN 2) (tgCons (tgN 3) tgNil)))) (sSeq (sSetF 1 (fLst dNil)) (sSeq (sWhile (dB (d2x (gEq (!·)) (dN 2) (dN 3))) (sIf (dB (d2 gGt (dN 2) (dN 3))) (sSeq (sSet 4 (d2 gDiv (d2 gSub (dN 2) (dC (.int 1))) (dN 3))) (sSeq (sAppend 1 (d2 gMulS (dC (S [82])) (dN 4))) (sAug 2 gSub (d2 gMul (dN 4) (dN 3))))) (sSeq (sSet 4 (d2 gDiv (d2 gSub (dN 3) (dC (.int 1))) (dN 2))) (sSeq (sAppend 1 (d2 gMulS (dC (S [76])) (dN 4))) (sAug 3 gSub (d2 gMul (dN 4) (dN 2))))))) (sRet (dM1 gJoin (dC (S [])) (dN 1)))))))
abbrev PL_road_of (F F_check_fraction : DF) : Prop := ∀ (ds : List PyData) (q : PyData → PyData → Prop) (a : Addr), ds.length = 1 → F ds q → (t_road_of F_check_fraction) (endsD false a q) (startD false a 5 ds)
theorem ok_road_of {P : Program} {w : World} {K : PySem.W.Frag} {mg : Str → Option Value} {base : Heap} {f : Addr} {fd : FuncData} {F F_check_fraction : DF} (Fn : FunD K "road_of" "road_of" (defArgs s_road_of) (defBody s_road_of) (defScope s_road_of) [] [] f fd) (k_check_fraction : Know P w K mg base "check_fraction" 2 ["fraction"] false 1 F_check_fraction)
    (pl : PL_road_of F F_check_fraction) : FnOk P w K mg base CX0 3 f fd ["fraction"] (spD false 1 F) := by
  obtain ⟨f_check_fraction, fd_check_fraction, m_check_fraction, kp_check_fraction, bd_check_fraction, G_check_fraction⟩ := k_check_fraction.ex
  refine okD Fn sc_road_of rfl (fun cdv A outer s H E hr => ?_) pl
  unfold t_road_of
  exact (ds_cons (ds_expr (do_call G_check_fraction (hr.mono (by decide)) rfl m_check_fraction kp_check_fraction bd_check_fraction (da_cons (do_nm (pv 0)) da_nil))) (ds_cons (ds_asg (do_nm (pv 0)) (dg_seq (n := 2) rfl (dgs_cons (dg_name sc_road_of.nd rfl (.inl rfl)) (dgs_cons (dg_name sc_road_of.nd rfl (.inl rfl)) dgs_nil)))) (ds_cons (ds_setF sc_road_of.nd rfl (.inl rfl) (dfr_lst da_nil)) (ds_cons (ds_while .never (dp_ne hr.units (do_nm (pv 2)) (do_nm (pv 3))) (ds_one (ds_if (dp_gt (do_nm (pv 2)) (do_nm (pv 3))) (ds_cons (ds_set sc_road_of.nd rfl (.inl rfl) (do_fdiv (do_sub (do_nm (pv 2)) do_int) (do_nm (pv 3)))) (ds_cons (ds_append (pv 1) (do_mulS (do_strL [82] (by decide +kernel)) (do_nm (pv 4)))) (ds_one (ds_augSub sc_road_of.nd rfl (.inl rfl) (do_mul (do_nm (pv 4)) (do_nm (pv 3))))))) (ds_cons (ds_set sc_road_of.nd rfl (.inl rfl) (do_fdiv (do_sub (do_nm (pv 3)) do_int) (do_nm (pv 2)))) (ds_cons (ds_append (pv 1) (do_mulS (do_strL [76] (by decide +kernel)) (do_nm (pv 4)))) (ds_one (ds_augSub sc_road_of.nd rfl (.inl rfl) (do_mul (do_nm (pv 4)) (do_nm (pv 2)))))))))) (ds_one (ds_ret (do_join (do_strL [] (by decide +kernel)) (do_nm (pv 1)))))))))
/-! run -/
abbrev s_run : Stmt := topS 23
theorem sc_run : FnScope ["machine", "road", "first", "rows", "word", "state"] ["machine", "road"] (defScope s_run) := ⟨rfl, rfl, rfl, by decide +kernel, rfl, by decide +kernel, by decide +kernel⟩
def t_run (F_check_machine F_check_road F_walked_on : DF) : DTS := (sSeq (sDrop (dCall 1 F_check_machine (dCons (dN 0) dNil))) (sSeq (sDrop (dCall 1 F_check_road (dCons (dN 1) dNil))) (sSeq (sAsg (dN 0) (tgSeq 2 (tgCons (tgN 2) (tgCons (tgN 3) tgNil)))) (sSeq (sAsg (dCall 3 F_walked_on (dCons (dN 3) (dCons (dC (.int 0)) (dCons (dN 1) dNil)))) (tgSeq 2 (tgCons (tgN 4) (tgCons (tgN 5) tgNil)))) (sRet (d2 gAdd (d2 gAdd (dN 2) (dN 4)) (d2 gIx (d2 gIx (dN 3) (dN 5)) (dC (.int 2)))))))))
abbrev PL_run (F F_check_machine F_check_road F_walked_on : DF) : Prop := ∀ (ds : List PyData) (q : PyData → PyData → Prop) (a : Addr), ds.length = 2 → F ds q → (t_run F_check_machine F_check_road F_walked_on) (endsD false a q) (startD false a 6 ds)
theorem ok_run {P : Program} {w : World} {K : PySem.W.Frag} {mg : Str → Option Value} {base : Heap} {f : Addr} {fd : FuncData} {F F_check_machine F_check_road F_walked_on : DF} (Fn : FunD K "run" "run" (defArgs s_run) (defBody s_run) (defScope s_run) [] [] f fd) (k_check_machine : Know P w K mg base "check_machine" 3 ["machine"] false 1 F_check_machine) (k_check_road : Know P w K mg base "check_road" 2 ["road"] false 1 F_check_road) (k_walked_on : Know P w K mg base "walked_on" 2 ["rows", "state", "road"] false 3 F_walked_on)
    (pl : PL_run F F_check_machine F_check_road F_walked_on) : FnOk P w K mg base CX0 4 f fd ["machine", "road"] (spD false 2 F) := by
  obtain ⟨f_check_machine, fd_check_machine, m_check_machine, kp_check_machine, bd_check_machine, G_check_machine⟩ := k_check_machine.ex
  obtain ⟨f_check_road, fd_check_road, m_check_road, kp_check_road, bd_check_road, G_check_road⟩ := k_check_road.ex
  obtain ⟨f_walked_on, fd_walked_on, m_walked_on, kp_walked_on, bd_walked_on, G_walked_on⟩ := k_walked_on.ex
  refine okD Fn sc_run rfl (fun cdv A outer s H E hr => ?_) pl
  unfold t_run
  exact (ds_cons (ds_expr (do_call G_check_machine (hr.mono (by decide)) rfl m_check_machine kp_check_machine bd_check_machine (da_cons (do_nm (pv 0)) da_nil))) (ds_cons (ds_expr (do_call G_check_road (hr.mono (by decide)) rfl m_check_road kp_check_road bd_check_road (da_cons (do_nm (pv 1)) da_nil))) (ds_cons (ds_asg (do_nm (pv 0)) (dg_seq (n := 2) rfl (dgs_cons (dg_name sc_run.nd rfl (.inl rfl)) (dgs_cons (dg_name sc_run.nd rfl (.inl rfl)) dgs_nil)))) (ds_cons (ds_asg (do_call G_walked_on (hr.mono (by decide)) rfl m_walked_on kp_walked_on bd_walked_on (da_cons (do_nm (pv 3)) (da_cons do_int (da_cons (do_nm (pv 1)) da_nil)))) (dg_seq (n := 2) rfl (dgs_cons (dg_name sc_run.nd rfl (.inl rfl)) (dgs_cons (dg_name sc_run.nd rfl (.inl rfl)) dgs_nil)))) (ds_one (ds_ret (do_add (do_add (do_nm (pv 2)) (do_nm (pv 4))) (do_ix (do_ix (do_nm (pv 3)) (do_nm (pv 5)) (fun _ _ => rfl)) do_int (fun _ _ => rfl)))))))))
/-! roads_to -/
abbrev s_roads_to : Stmt := topS 25
theorem sc_roads_to : FnScope ["length", "found", "at"] ["length"] (defScope s_roads_to) := ⟨rfl, rfl, rfl, by decide +kernel, rfl, by decide +kernel, by decide +kernel⟩
def t_roads_to : DTS := (sSeq (sPar 1 2 (afF (fLst (dCons (dC (S [])) dNil)) (afV (dC (.int 0)) afNil))) (sSeq (sWhile (dB (d2 gLt (dB1 (g1 gLen) (dCons (d2 gIx (dN 1) (dN 2)) dNil)) (dN 0))) (sSeq (sExtend 1 (dLst (dCons (d2 gAdd (d2 gIx (dN 1) (dN 2)) (dC (S [76]))) (dCons (d2 gAdd (d2 gIx (dN 1) (dN 2)) (dC (S [82]))) dNil)))) (sAug 2 gAdd (dC (.int 1))))) (sRet (dN 1))))
abbrev PL_roads_to (F  : DF) : Prop := ∀ (ds : List PyData) (q : PyData → PyData → Prop) (a : Addr), ds.length = 1 → F ds q → (t_roads_to) (endsD false a q) (startD false a 3 ds)
theorem ok_roads_to {P : Program} {w : World} {K : PySem.W.Frag} {mg : Str → Option Value} {base : Heap} {f : Addr} {fd : FuncData} {F  : DF} (Fn : FunD K "roads_to" "roads_to" (defArgs s_roads_to) (defBody s_roads_to) (defScope s_roads_to) [] [] f fd) (b_len : mg "len" = none)
    (pl : PL_roads_to F) : FnOk P w K mg base CX0 1 f fd ["length"] (spD false 1 F) := by
  refine okD Fn sc_roads_to rfl (fun cdv A outer s H E hr => ?_) pl
  unfold t_roads_to
  exact (ds_cons (ds_par rfl sc_roads_to.nd rfl rfl (by decide) rfl rfl (daf_f (dfr_lst (da_cons (do_strL [] (by decide +kernel)) da_nil)) (daf_v do_int daf_nil)) rfl) (ds_cons (ds_while .never (dp_lt (do_len rfl b_len (do_ix (do_nm (pv 1)) (do_nm (pv 2)) (fun _ _ => rfl))) (do_nm (pv 0))) (ds_cons (ds_extend (pv 1) (do_lst (da_cons (do_add (do_ix (do_nm (pv 1)) (do_nm (pv 2)) (fun _ _ => rfl)) (do_strL [76] (by decide +kernel))) (da_cons (do_add (do_ix (do_nm (pv 1)) (do_nm (pv 2)) (fun _ _ => rfl)) (do_strL [82] (by decide +kernel))) da_nil)))) (ds_one (ds_augAdd sc_roads_to.nd rfl (.inl rfl) do_int)))) (ds_one (ds_ret (do_nm (pv 1))))))
/-! table_of -/
abbrev s_table_of : Stmt := topS 26
theorem sc_table_of : FnScope ["machine", "length", "road"] ["machine", "length"] (defScope s_table_of) := ⟨rfl, rfl, rfl, by decide +kernel, rfl, by decide +kernel, by decide +kernel⟩
def t_table_of (F_check_machine F_check_number F_roads_to F_run : DF) : DTS := (sSeq (sDrop (dCall 1 F_check_machine (dCons (dN 0) dNil))) (sSeq (sDrop (dCall 2 F_check_number (dCons (dN 1) (dCons (dC (.int 0)) dNil)))) (sRet (dOfF (fLc (iAny (dCall 1 F_roads_to (dCons (dN 1) dNil))) (tgN 2) dYes (dCall 2 F_run (dCons (dN 0) (dCons (dN 2) dNil))) [2])))))
abbrev PL_table_of (F F_check_machine F_check_number F_roads_to F_run : DF) : Prop := ∀ (ds : List PyData) (q : PyData → PyData → Prop) (a : Addr), ds.length = 2 → F ds q → (t_table_of F_check_machine F_check_number F_roads_to F_run) (endsD false a q) (startD false a 3 ds)
theorem ok_table_of {P : Program} {w : World} {K : PySem.W.Frag} {mg : Str → Option Value} {base : Heap} {f : Addr} {fd : FuncData} {F F_check_machine F_check_number F_roads_to F_run : DF} (Fn : FunD K "table_of" "table_of" (defArgs s_table_of) (defBody s_table_of) (defScope s_table_of) [] [] f fd) (k_check_machine : Know P w K mg base "check_machine" 3 ["machine"] false 1 F_check_machine) (k_check_number : Know P w K mg base "check_number" 1 ["number", "least"] false 2 F_check_number) (k_roads_to : Know P w K mg base "roads_to" 1 ["length"] false 1 F_roads_to) (k_run : Know P w K mg base "run" 4 ["machine", "road"] false 2 F_run)
    (pl : PL_table_of F F_check_machine F_check_number F_roads_to F_run) : FnOk P w K mg base CX0 5 f fd ["machine", "length"] (spD false 2 F) := by
  obtain ⟨f_check_machine, fd_check_machine, m_check_machine, kp_check_machine, bd_check_machine, G_check_machine⟩ := k_check_machine.ex
  obtain ⟨f_check_number, fd_check_number, m_check_number, kp_check_number, bd_check_number, G_check_number⟩ := k_check_number.ex
  obtain ⟨f_roads_to, fd_roads_to, m_roads_to, kp_roads_to, bd_roads_to, G_roads_to⟩ := k_roads_to.ex
  obtain ⟨f_run, fd_run, m_run, kp_run, bd_run, G_run⟩ := k_run.ex
  refine okD Fn sc_table_of rfl (fun cdv A outer s H E hr => ?_) pl
  unfold t_table_of
  exact (ds_cons (ds_expr (do_call G_check_machine (hr.mono (by decide)) rfl m_check_machine kp_check_machine bd_check_machine (da_cons (do_nm (pv 0)) da_nil))) (ds_cons (ds_expr (do_call G_check_number (hr.mono (by decide)) rfl m_check_number kp_check_number bd_check_number (da_cons (do_nm (pv 1)) (da_cons do_int da_nil)))) (ds_one (ds_ret (do_f (dfr_lc (own := [("road", 2)]) (by decide) rfl sc_table_of.nd (di_any (do_call G_roads_to (hr.mono (by decide)) rfl m_roads_to kp_roads_to bd_roads_to (da_cons (do_nm (pv 1)) da_nil))) (blkOk_by (N := ["machine", "length", "road"]) (sc := defScope s_table_of) (by decide +kernel)) (fun _ _ _ _ _ => (dg_name sc_table_of.nd rfl (.inl rfl))) (fun _ _ _ _ _ => dts_nil) (fun _ _ _ _ _ => (do_call G_run (hr.mono (by decide)) rfl m_run kp_run bd_run (da_cons (do_nm (pv 0)) (da_cons (do_nm (pv 2)) da_nil))))))))))
/-! divided -/
abbrev s_divided : Stmt := topS 28
theorem sc_divided : FnScope ["numbers", "many", "number"] ["numbers"] (defScope s_divided) := ⟨rfl, rfl, rfl, by decide +kernel, rfl, by decide +kernel, by decide +kernel⟩
def t_divided (F_divisor_of : DF) : DTS := (sSeq (sSet 1 (dCall 1 F_divisor_of (dCons (dN 0) dNil))) (sRet (dB1 (g1 gTupOf) (dCons (dOfF (fLc (iAny (dN 0)) (tgN 2) dYes (d2 gDiv (dN 2) (dN 1)) [2])) dNil))))
abbrev PL_divided (F F_divisor_of : DF) : Prop := ∀ (ds : List PyData) (q : PyData → PyData → Prop) (a : Addr), ds.length = 1 → F ds q → (t_divided F_divisor_of) (endsD false a q) (startD false a 3 ds)
theorem ok_divided {P : Program} {w : World} {K : PySem.W.Frag} {mg : Str → Option Value} {base : Heap} {f : Addr} {fd : FuncData} {F F_divisor_of : DF} (Fn : FunD K "divided" "divided" (defArgs s_divided) (defBody s_divided) (defScope s_divided) [] [] f fd) (k_divisor_of : Know P w K mg base "divisor_of" 1 ["numbers"] false 1 F_divisor_of) (b_tuple : mg "tuple" = none)
    (pl : PL_divided F F_divisor_of) : FnOk P w K mg base CX0 2 f fd ["numbers"] (spD false 1 F) := by
  obtain ⟨f_divisor_of, fd_divisor_of, m_divisor_of, kp_divisor_of, bd_divisor_of, G_divisor_of⟩ := k_divisor_of.ex
  refine okD Fn sc_divided rfl (fun cdv A outer s H E hr => ?_) pl
  unfold t_divided
  exact (ds_cons (ds_set sc_divided.nd rfl (.inr rfl) (do_call G_divisor_of (hr.mono (by decide)) rfl m_divisor_of kp_divisor_of bd_divisor_of (da_cons (do_nm (pv 0)) da_nil))) (ds_one (ds_ret (do_tupOf rfl b_tuple (do_f (dfr_lc (own := [("number", 2)]) (by decide) rfl sc_divided.nd (di_any (do_nm (pv 0))) (blkOk_by (N := ["numbers", "many", "number"]) (sc := defScope s_divided) (by decide +kernel)) (fun _ _ _ _ _ => (dg_name sc_divided.nd rfl (.inl rfl))) (fun _ _ _ _ _ => dts_nil) (fun _ _ _ _ _ => (do_fdiv (do_nm (pv 2)) (do_nm (pv 1))))))))))
/-! image -/
abbrev s_image : Stmt := topS 29
theorem sc_image : FnScope ["one", "fraction", "a", "b", "c", "d", "above", "below"] ["one", "fraction"] (defScope s_image) := ⟨rfl, rfl, rfl, by decide +kernel, rfl, by decide +kernel, by decide +kernel⟩
def t_image (F_divided : DF) : DTS := (sSeq (sAsg (dN 0) (tgSeq 4 (tgCons (tgN 2) (tgCons (tgN 3) (tgCons (tgN 4) (tgCons (tgN 5) tgNil)))))) (sSeq (sAsg (dN 1) (tgSeq 2 (tgCons (tgN 6) (tgCons (tgN 7) tgNil)))) (sRet (dCall 1 F_divided (dCons (dTup (dCons (d2 gAdd (d2 gMul (dN 2) (dN 6)) (d2 gMul (dN 3) (dN 7))) (dCons (d2 gAdd (d2 gMul (dN 4) (dN 6)) (d2 gMul (dN 5) (dN 7))) dNil))) dNil)))))
abbrev PL_image (F F_divided : DF) : Prop := ∀ (ds : List PyData) (q : PyData → PyData → Prop) (a : Addr), ds.length = 2 → F ds q → (t_image F_divided) (endsD false a q) (startD false a 8 ds)
theorem ok_image {P : Program} {w : World} {K : PySem.W.Frag} {mg : Str → Option Value} {base : Heap} {f : Addr} {fd : FuncData} {F F_divided : DF} (Fn : FunD K "image" "image" (defArgs s_image) (defBody s_image) (defScope s_image) [] [] f fd) (k_divided : Know P w K mg base "divided" 2 ["numbers"] false 1 F_divided)
    (pl : PL_image F F_divided) : FnOk P w K mg base CX0 3 f fd ["one", "fraction"] (spD false 2 F) := by
  obtain ⟨f_divided, fd_divided, m_divided, kp_divided, bd_divided, G_divided⟩ := k_divided.ex
  refine okD Fn sc_image rfl (fun cdv A outer s H E hr => ?_) pl
  unfold t_image
  exact (ds_cons (ds_asg (do_nm (pv 0)) (dg_seq (n := 4) rfl (dgs_cons (dg_name sc_image.nd rfl (.inl rfl)) (dgs_cons (dg_name sc_image.nd rfl (.inl rfl)) (dgs_cons (dg_name sc_image.nd rfl (.inl rfl)) (dgs_cons (dg_name sc_image.nd rfl (.inl rfl)) dgs_nil)))))) (ds_cons (ds_asg (do_nm (pv 1)) (dg_seq (n := 2) rfl (dgs_cons (dg_name sc_image.nd rfl (.inl rfl)) (dgs_cons (dg_name sc_image.nd rfl (.inl rfl)) dgs_nil)))) (ds_one (ds_ret (do_call G_divided (hr.mono (by decide)) rfl m_divided kp_divided bd_divided (da_cons (do_tup (da_cons (do_add (do_mul (do_nm (pv 2)) (do_nm (pv 6))) (do_mul (do_nm (pv 3)) (do_nm (pv 7)))) (da_cons (do_add (do_mul (do_nm (pv 4)) (do_nm (pv 6))) (do_mul (do_nm (pv 5)) (do_nm (pv 7)))) da_nil))) da_nil))))))
/-! left_over -/
abbrev s_left_over : Stmt := topS 30
theorem sc_left_over : FnScope ["one", "written", "a", "b", "c", "d"] ["one"] (defScope s_left_over) := ⟨rfl, rfl, rfl, by decide +kernel, rfl, by decide +kernel, by decide +kernel⟩
def t_left_over : DTS := (sSeq (sAsg (dN 0) (tgSeq 4 (tgCons (tgN 2) (tgCons (tgN 3) (tgCons (tgN 4) (tgCons (tgN 5) tgNil)))))) (sSeq (sSetF 1 (fLst dNil)) (sWhile (dB (dC (.bool true))) (sIf (dAnd (dB (d2 gGe (dN 2) (dN 4))) (dB (d2 gGe (dN 3) (dN 5)))) (sSeq (sAppend 1 (dC (S [82]))) (sPar 2 3 (afV (d2 gSub (dN 2) (dN 4)) (afV (d2 gSub (dN 3) (dN 5)) afNil)))) (sIf (dAnd (dB (d2 gGe (dN 4) (dN 2))) (dB (d2 gGe (dN 5) (dN 3)))) (sSeq (sAppend 1 (dC (S [76]))) (sPar 4 5 (afV (d2 gSub (dN 4) (dN 2)) (afV (d2 gSub (dN 5) (dN 3)) afNil)))) (sRet (dTup (dCons (dM1 gJoin (dC (S [])) (dN 1)) (dCons (dTup (dCons (dN 2) (dCons (dN 3) (dCons (dN 4) (dCons (dN 5) dNil))))) dNil)))))))))
abbrev PL_left_over (F  : DF) : Prop := ∀ (ds : List PyData) (q : PyData → PyData → Prop) (a : Addr), ds.length = 1 → F ds q → (t_left_over) (endsD false a q) (startD false a 6 ds)
theorem ok_left_over {P : Program} {w : World} {K : PySem.W.Frag} {mg : Str → Option Value} {base : Heap} {f : Addr} {fd : FuncData} {F  : DF} (Fn : FunD K "left_over" "left_over" (defArgs s_left_over) (defBody s_left_over) (defScope s_left_over) [] [] f fd)
    (pl : PL_left_over F) : FnOk P w K mg base CX0 1 f fd ["one"] (spD false 1 F) := by
  refine okD Fn sc_left_over rfl (fun cdv A outer s H E hr => ?_) pl
  unfold t_left_over
  exact (ds_cons (ds_asg (do_nm (pv 0)) (dg_seq (n := 4) rfl (dgs_cons (dg_name sc_left_over.nd rfl (.inl rfl)) (dgs_cons (dg_name sc_left_over.nd rfl (.inl rfl)) (dgs_cons (dg_name sc_left_over.nd rfl (.inl rfl)) (dgs_cons (dg_name sc_left_over.nd rfl (.inl rfl)) dgs_nil)))))) (ds_cons (ds_setF sc_left_over.nd rfl (.inl rfl) (dfr_lst da_nil)) (ds_one (ds_while .never (dp_val do_bl) (ds_one (ds_if (dp_w (dw_and (dp_ge (do_nm (pv 2)) (do_nm (pv 4))) (dw_and1 (dp_ge (do_nm (pv 3)) (do_nm (pv 5)))))) (ds_cons (ds_append (pv 1) (do_strL [82] (by decide +kernel))) (ds_one (ds_par rfl sc_left_over.nd rfl rfl (by decide) rfl rfl (daf_v (do_sub (do_nm (pv 2)) (do_nm (pv 4))) (daf_v (do_sub (do_nm (pv 3)) (do_nm (pv 5))) daf_nil)) rfl))) (ds_one (ds_if (dp_w (dw_and (dp_ge (do_nm (pv 4)) (do_nm (pv 2))) (dw_and1 (dp_ge (do_nm (pv 5)) (do_nm (pv 3)))))) (ds_cons (ds_append (pv 1) (do_strL [76] (by decide +kernel))) (ds_one (ds_par rfl sc_left_over.nd rfl rfl (by decide) rfl rfl (daf_v (do_sub (do_nm (pv 4)) (do_nm (pv 2))) (daf_v (do_sub (do_nm (pv 5)) (do_nm (pv 3))) daf_nil)) rfl))) (ds_one (ds_ret (do_tup (da_cons (do_join (do_strL [] (by decide +kernel)) (do_nm (pv 1))) (da_cons (do_tup (da_cons (do_nm (pv 2)) (da_cons (do_nm (pv 3)) (da_cons (do_nm (pv 4)) (da_cons (do_nm (pv 5)) da_nil))))) da_nil)))))))))))))
/-! read_turn -/
abbrev s_read_turn : Stmt := topS 31
theorem sc_read_turn : FnScope ["one", "turn", "a", "b", "c", "d"] ["one", "turn"] (defScope s_read_turn) := ⟨rfl, rfl, rfl, by decide +kernel, rfl, by decide +kernel, by decide +kernel⟩
def t_read_turn (F_left_over : DF) : DTS := (sSeq (sAsg (dN 0) (tgSeq 4 (tgCons (tgN 2) (tgCons (tgN 3) (tgCons (tgN 4) (tgCons (tgN 5) tgNil)))))) (sSeq (sIf (dB (d2x (gEq id) (dN 1) (dC (S [82])))) (sRet (dCall 1 F_left_over (dCons (dTup (dCons (dN 2) (dCons (d2 gAdd (dN 2) (dN 3)) (dCons (dN 4) (dCons (d2 gAdd (dN 4) (dN 5)) dNil))))) dNil))) sNext) (sRet (dCall 1 F_left_over (dCons (dTup (dCons (d2 gAdd (dN 2) (dN 3)) (dCons (dN 3) (dCons (d2 gAdd (dN 4) (dN 5)) (dCons (dN 5) dNil))))) dNil)))))
abbrev PL_read_turn (F F_left_over : DF) : Prop := ∀ (ds : List PyData) (q : PyData → PyData → Prop) (a : Addr), ds.length = 2 → F ds q → (t_read_turn F_left_over) (endsD false a q) (startD false a 6 ds)
theorem ok_read_turn {P : Program} {w : World} {K : PySem.W.Frag} {mg : Str → Option Value} {base : Heap} {f : Addr} {fd : FuncData} {F F_left_over : DF} (Fn : FunD K "read_turn" "read_turn" (defArgs s_read_turn) (defBody s_read_turn) (defScope s_read_turn) [] [] f fd) (k_left_over : Know P w K mg base "left_over" 1 ["one"] false 1 F_left_over)
    (pl : PL_read_turn F F_left_over) : FnOk P w K mg base CX0 2 f fd ["one", "turn"] (spD false 2 F) := by
  obtain ⟨f_left_over, fd_left_over, m_left_over, kp_left_over, bd_left_over, G_left_over⟩ := k_left_over.ex
  refine okD Fn sc_read_turn rfl (fun cdv A outer s H E hr => ?_) pl
  unfold t_read_turn
  exact (ds_cons (ds_asg (do_nm (pv 0)) (dg_seq (n := 4) rfl (dgs_cons (dg_name sc_read_turn.nd rfl (.inl rfl)) (dgs_cons (dg_name sc_read_turn.nd rfl (.inl rfl)) (dgs_cons (dg_name sc_read_turn.nd rfl (.inl rfl)) (dgs_cons (dg_name sc_read_turn.nd rfl (.inl rfl)) dgs_nil)))))) (ds_cons (ds_if (dp_eq hr.units (do_nm (pv 1)) (do_strL [82] (by decide +kernel))) (ds_one (ds_ret (do_call G_left_over (hr.mono (by decide)) rfl m_left_over kp_left_over bd_left_over (da_cons (do_tup (da_cons (do_nm (pv 2)) (da_cons (do_add (do_nm (pv 2)) (do_nm (pv 3))) (da_cons (do_nm (pv 4)) (da_cons (do_add (do_nm (pv 4)) (do_nm (pv 5))) da_nil))))) da_nil)))) ds_nil) (ds_one (ds_ret (do_call G_left_over (hr.mono (by decide)) rfl m_left_over kp_left_over bd_left_over (da_cons (do_tup (da_cons (do_add (do_nm (pv 2)) (do_nm (pv 3))) (da_cons (do_nm (pv 3)) (da_cons (do_add (do_nm (pv 4)) (do_nm (pv 5))) (da_cons (do_nm (pv 5)) da_nil))))) da_nil))))))
/-! gone_through -/
abbrev s_gone_through : Stmt := topS 32
theorem sc_gone_through : FnScope ["one", "first", "start", "found", "numbers", "moves", "pair", "turn", "word", "rest"] ["one"] (defScope s_gone_through) := ⟨rfl, rfl, rfl, by decide +kernel, rfl, by decide +kernel, by decide +kernel⟩
def t_gone_through (F_left_over F_read_turn : DF) : DTS := (sSeq (sAsg (dCall 1 F_left_over (dCons (dN 0) dNil)) (tgSeq 2 (tgCons (tgN 1) (tgCons (tgN 2) tgNil)))) (sSeq (sPar3 3 4 5 (afF (fLst (dCons (dN 2) dNil)) (afF (fT1 (dN 2) (dC (.int 0))) (afF (fLst dNil) afNil)))) (sSeq (sWhile (dB (d2 gLt (dB1 (g1 gLen) (dCons (dN 5) dNil)) (dB1 (g1 gLen) (dCons (dN 3) dNil)))) (sSeq (sSetF 6 (fLst dNil)) (sSeq (sFor (iAny (dTup (dCons (dC (S [76])) (dCons (dC (S [82])) dNil)))) (tgN 7) (sSeq (sAsg (dCall 2 F_read_turn (dCons (d2 gIx (dN 3) (dB1 (g1 gLen) (dCons (dN 5) dNil))) (dCons (dN 7) dNil))) (tgSeq 2 (tgCons (tgN 8) (tgCons (tgN 9) tgNil)))) (sSeq (sIf (dB (d2 (gTIn (!·)) (dN 9) (dN 4))) (sSeq (sTPut 4 (dN 9) (dB1 (g1 gLen) (dCons (dN 3) dNil))) (sAppend 3 (dN 9))) sNext) (sAppend 6 (dTup (dCons (dN 8) (dCons (d2 gTGet (dN 4) (dN 9)) dNil))))))) (sAppend 5 (dN 6))))) (sRet (dTup (dCons (dN 1) (dCons (dN 3) (dCons (dN 5) dNil))))))))
abbrev PL_gone_through (F F_left_over F_read_turn : DF) : Prop := ∀ (ds : List PyData) (q : PyData → PyData → Prop) (a : Addr), ds.length = 1 → F ds q → (t_gone_through F_left_over F_read_turn) (endsD false a q) (startD false a 10 ds)
theorem ok_gone_through {P : Program} {w : World} {K : PySem.W.Frag} {mg : Str → Option Value} {base : Heap} {f : Addr} {fd : FuncData} {F F_left_over F_read_turn : DF} (Fn : FunD K "gone_through" "gone_through" (defArgs s_gone_through) (defBody s_gone_through) (defScope s_gone_through) [] [] f fd) (k_left_over : Know P w K mg base "left_over" 1 ["one"] false 1 F_left_over) (k_read_turn : Know P w K mg base "read_turn" 2 ["one", "turn"] false 2 F_read_turn) (b_len : mg "len" = none)
    (pl : PL_gone_through F F_left_over F_read_turn) : FnOk P w K mg base CX0 3 f fd ["one"] (spD false 1 F) := by
  obtain ⟨f_left_over, fd_left_over, m_left_over, kp_left_over, bd_left_over, G_left_over⟩ := k_left_over.ex
  obtain ⟨f_read_turn, fd_read_turn, m_read_turn, kp_read_turn, bd_read_turn, G_read_turn⟩ := k_read_turn.ex
  refine okD Fn sc_gone_through rfl (fun cdv A outer s H E hr => ?_) pl
  unfold t_gone_through
  exact (ds_cons (ds_asg (do_call G_left_over (hr.mono (by decide)) rfl m_left_over kp_left_over bd_left_over (da_cons (do_nm (pv 0)) da_nil)) (dg_seq (n := 2) rfl (dgs_cons (dg_name sc_gone_through.nd rfl (.inl rfl)) (dgs_cons (dg_name sc_gone_through.nd rfl (.inl rfl)) dgs_nil)))) (ds_cons (ds_par3 rfl sc_gone_through.nd rfl rfl rfl (by decide) (by decide) (by decide) rfl rfl rfl (daf_f (dfr_lst (da_cons (do_nm (pv 2)) da_nil)) (daf_f (dfr_t1 (hu_of hr) (do_nm (pv 2)) do_int) (daf_f (dfr_lst da_nil) daf_nil))) rfl) (ds_cons (ds_while .never (dp_lt (do_len rfl b_len (do_nm (pv 5))) (do_len rfl b_len (do_nm (pv 3)))) (ds_cons (ds_setF sc_gone_through.nd rfl (.inl rfl) (dfr_lst da_nil)) (ds_cons (ds_for .never rfl (di_any (do_tup (da_cons (do_strL [76] (by decide +kernel)) (da_cons (do_strL [82] (by decide +kernel)) da_nil)))) (dg_name sc_gone_through.nd rfl (.inl rfl)) (ds_cons (ds_asg (do_call G_read_turn (hr.mono (by decide)) rfl m_read_turn kp_read_turn bd_read_turn (da_cons (do_ix (do_nm (pv 3)) (do_len rfl b_len (do_nm (pv 5))) (fun _ _ => rfl)) (da_cons (do_nm (pv 7)) da_nil))) (dg_seq (n := 2) rfl (dgs_cons (dg_name sc_gone_through.nd rfl (.inl rfl)) (dgs_cons (dg_name sc_gone_through.nd rfl (.inl rfl)) dgs_nil)))) (ds_cons (ds_if (dp_tnotin (hu_of hr) (do_nm (pv 9)) (do_nm (pv 4))) (ds_cons (ds_tput (hu_of hr) (pv 4) (do_nm (pv 9)) (do_len rfl b_len (do_nm (pv 3)))) (ds_one (ds_append (pv 3) (do_nm (pv 9))))) ds_nil) (ds_one (ds_append (pv 6) (do_tup (da_cons (do_nm (pv 8)) (da_cons (do_tget (hu_of hr) (do_nm (pv 4)) (do_nm (pv 9)) (fun _ _ => rfl)) da_nil)))))))) (ds_one (ds_append (pv 5) (do_nm (pv 6))))))) (ds_one (ds_ret (do_tup (da_cons (do_nm (pv 1)) (da_cons (do_nm (pv 3)) (da_cons (do_nm (pv 5)) da_nil)))))))))
/-! machine_of -/
abbrev s_machine_of : Stmt := topS 33
theorem sc_machine_of : FnScope ["one", "ends", "first", "found", "moves", "rest", "pair", "end"] ["one"] (defScope s_machine_of) := ⟨rfl, rfl, rfl, by decide +kernel, rfl, by decide +kernel, by decide +kernel⟩
def t_machine_of (F_check_map F_gone_through F_road_of F_image : DF) : DTS := (sSeq (sDrop (dCall 1 F_check_map (dCons (dN 0) dNil))) (sSeq (sAsg (dCall 1 F_gone_through (dCons (dN 0) dNil)) (tgSeq 3 (tgCons (tgN 2) (tgCons (tgN 3) (tgCons (tgN 4) tgNil))))) (sSeq (sSetV 1 (fLc (iAny (dN 3)) (tgN 5) dYes (dCall 1 F_road_of (dCons (dCall 2 F_image (dCons (dN 5) (dCons (dTup (dCons (dC (.int 1)) (dCons (dC (.int 1)) dNil))) dNil))) dNil)) [5])) (sRet (dTup (dCons (dN 2) (dCons (dOfF (fLc (iZ2 (dCons (dN 4) (dCons (dN 1) dNil))) (tgSeq 2 (tgCons (tgN 6) (tgCons (tgN 7) tgNil))) dYes (dTup (dCons (d2 gIx (dN 6) (dC (.int 0))) (dCons (d2 gIx (dN 6) (dC (.int 1))) (dCons (dN 7) dNil)))) [6, 7])) dNil)))))))
abbrev PL_machine_of (F F_check_map F_gone_through F_road_of F_image : DF) : Prop := ∀ (ds : List PyData) (q : PyData → PyData → Prop) (a : Addr), ds.length = 1 → F ds q → (t_machine_of F_check_map F_gone_through F_road_of F_image) (endsD false a q) (startD false a 8 ds)
theorem ok_machine_of {P : Program} {w : World} {K : PySem.W.Frag} {mg : Str → Option Value} {base : Heap} {f : Addr} {fd : FuncData} {F F_check_map F_gone_through F_road_of F_image : DF} (Fn : FunD K "machine_of" "machine_of" (defArgs s_machine_of) (defBody s_machine_of) (defScope s_machine_of) [] [] f fd) (k_check_map : Know P w K mg base "check_map" 2 ["one"] false 1 F_check_map) (k_gone_through : Know P w K mg base "gone_through" 3 ["one"] false 1 F_gone_through) (k_road_of : Know P w K mg base "road_of" 3 ["fraction"] false 1 F_road_of) (k_image : Know P w K mg base "image" 3 ["one", "fraction"] false 2 F_image) (b_zip : mg "zip" = none)
    (pl : PL_machine_of F F_check_map F_gone_through F_road_of F_image) : FnOk P w K mg base CX0 4 f fd ["one"] (spD false 1 F) := by
  obtain ⟨f_check_map, fd_check_map, m_check_map, kp_check_map, bd_check_map, G_check_map⟩ := k_check_map.ex
  obtain ⟨f_gone_through, fd_gone_through, m_gone_through, kp_gone_through, bd_gone_through, G_gone_through⟩ := k_gone_through.ex
  obtain ⟨f_road_of, fd_road_of, m_road_of, kp_road_of, bd_road_of, G_road_of⟩ := k_road_of.ex
  obtain ⟨f_image, fd_image, m_image, kp_image, bd_image, G_image⟩ := k_image.ex
  refine okD Fn sc_machine_of rfl (fun cdv A outer s H E hr => ?_) pl
  unfold t_machine_of
  exact (ds_cons (ds_expr (do_call G_check_map (hr.mono (by decide)) rfl m_check_map kp_check_map bd_check_map (da_cons (do_nm (pv 0)) da_nil))) (ds_cons (ds_asg (do_call G_gone_through (hr.mono (by decide)) rfl m_gone_through kp_gone_through bd_gone_through (da_cons (do_nm (pv 0)) da_nil)) (dg_seq (n := 3) rfl (dgs_cons (dg_name sc_machine_of.nd rfl (.inl rfl)) (dgs_cons (dg_name sc_machine_of.nd rfl (.inl rfl)) (dgs_cons (dg_name sc_machine_of.nd rfl (.inl rfl)) dgs_nil))))) (ds_cons (ds_setLcV (own := [("rest", 5)]) (by decide) rfl sc_machine_of.nd rfl rfl rfl (di_any (do_nm (pv 3))) (blkOk_by (N := ["one", "ends", "first", "found", "moves", "rest", "pair", "end"]) (sc := defScope s_machine_of) (by decide +kernel)) (fun _ _ _ _ _ => (dg_name sc_machine_of.nd rfl (.inl rfl))) (fun _ _ _ _ _ => dts_nil) (fun _ _ _ _ _ => (do_call G_road_of (hr.mono (by decide)) rfl m_road_of kp_road_of bd_road_of (da_cons (do_call G_image (hr.mono (by decide)) rfl m_image kp_image bd_image (da_cons (do_nm (pv 5)) (da_cons (do_tup (da_cons do_int (da_cons do_int da_nil))) da_nil))) da_nil)))) (ds_one (ds_ret (do_tup (da_cons (do_nm (pv 2)) (da_cons (do_f (dfr_lc (own := [("pair", 6), ("end", 7)]) (by decide) rfl sc_machine_of.nd (di_zip2 rfl b_zip (da_cons (do_nm (pv 4)) (da_cons (do_nm (pv 1)) da_nil))) (blkOk_by (N := ["one", "ends", "first", "found", "moves", "rest", "pair", "end"]) (sc := defScope s_machine_of) (by decide +kernel)) (fun _ _ _ _ _ => (dg_seq (n := 2) rfl (dgs_cons (dg_name sc_machine_of.nd rfl (.inl rfl)) (dgs_cons (dg_name sc_machine_of.nd rfl (.inl rfl)) dgs_nil)))) (fun _ _ _ _ _ => dts_nil) (fun _ _ _ _ _ => (do_tup (da_cons (do_ix (do_nm (pv 6)) do_int (fun _ _ => rfl)) (da_cons (do_ix (do_nm (pv 6)) do_int (fun _ _ => rfl)) (da_cons (do_nm (pv 7)) da_nil))))))) da_nil))))))))
/-! _law_coin -/
abbrev s_law_coin : Stmt := topS 36
theorem sc_law_coin : FnScope ["purse", "many", "stirred", "drawn"] ["purse", "many"] (defScope s_law_coin) := ⟨rfl, rfl, rfl, by decide +kernel, rfl, by decide +kernel, by decide +kernel⟩
def t_law_coin : DTS := (sSeq (sIf (dB (d2 gGt (d2 gIx (dN 0) (dC (.int 0))) (dC (.int 0)))) (sSeq (sSet 3 (d2 gMod (dB1 (g1 gInt) (dCons (d2 gIx (dN 0) (dC (.int 0))) dNil)) (dN 1))) (sSeq (sSetIx 0 (dC (.int 0)) (d2 gDiv (d2 gIx (dN 0) (dC (.int 0))) (dN 1))) (sRet (dN 3)))) sNext) (sSeq (sSetIx 0 (dC (.int 2)) (d2 gAdd (d2 gIx (dN 0) (dC (.int 2))) (dC (.int 1)))) (sSeq (sSet 2 (d2 gMod (d2 gPow (dB1 (g1 gInt) (dCons (d2 gAdd (d2 gIx (dN 0) (dC (.int 1))) (d2 gMul (dC (.int 2038074743)) (d2 gIx (dN 0) (dC (.int 2))))) dNil)) (dC (.int 3))) (d2 gAdd (d2 gPow (dC (.int 10)) (dC (.int 25))) (dC (.int 13))))) (sSeq (sSet 2 (d2 gMod (d2 gPow (dB1 (g1 gInt) (dCons (d2 gAdd (dN 2) (d2 gMul (dC (.int 982451653)) (d2 gIx (dN 0) (dC (.int 2))))) dNil)) (dC (.int 2))) (d2 gAdd (d2 gPow (dC (.int 10)) (dC (.int 24))) (dC (.int 7))))) (sRet (d2 gMod (dB1 (g1 gInt) (dCons (d2 gDiv (dN 2) (dC (.int 1024))) dNil)) (dN 1)))))))
abbrev PL_law_coin (F  : DF) : Prop := ∀ (ds : List PyData) (q : PyData → PyData → Prop) (a : Addr), ds.length = 2 → F ds q → (t_law_coin) (endsD true a q) (startD true a 4 ds)
theorem ok_law_coin {P : Program} {w : World} {K : PySem.W.Frag} {mg : Str → Option Value} {base : Heap} {f : Addr} {fd : FuncData} {F  : DF} (Fn : FunD K "_law_coin" "_law_coin" (defArgs s_law_coin) (defBody s_law_coin) (defScope s_law_coin) [] [] f fd) (b_int : mg "int" = none)
    (pl : PL_law_coin F) : FnOk P w K mg base CX0 1 f fd ["purse", "many"] (spD true 2 F) := by
  refine okD Fn sc_law_coin rfl (fun cdv A outer s H E hr => ?_) pl
  unfold t_law_coin
  exact (ds_cons (ds_if (dp_gt (do_ix (do_nm (pv 0)) do_int (fun _ _ => rfl)) do_int) (ds_cons (ds_set sc_law_coin.nd rfl (.inl rfl) (do_mod (do_int1 rfl b_int (do_ix (do_nm (pv 0)) do_int (fun _ _ => rfl))) (do_nm (pv 1)))) (ds_cons (ds_setIx (pv 0) do_int (do_fdiv (do_ix (do_nm (pv 0)) do_int (fun _ _ => rfl)) (do_nm (pv 1)))) (ds_one (ds_ret (do_nm (pv 3)))))) ds_nil) (ds_cons (ds_setIx (pv 0) do_int (do_add (do_ix (do_nm (pv 0)) do_int (fun _ _ => rfl)) do_int)) (ds_cons (ds_set sc_law_coin.nd rfl (.inl rfl) (do_mod (do_pow (do_int1 rfl b_int (do_add (do_ix (do_nm (pv 0)) do_int (fun _ _ => rfl)) (do_mul do_int (do_ix (do_nm (pv 0)) do_int (fun _ _ => rfl))))) do_int) (do_add (do_pow do_int do_int) do_int))) (ds_cons (ds_set sc_law_coin.nd rfl (.inl rfl) (do_mod (do_pow (do_int1 rfl b_int (do_add (do_nm (pv 2)) (do_mul do_int (do_ix (do_nm (pv 0)) do_int (fun _ _ => rfl))))) do_int) (do_add (do_pow do_int do_int) do_int))) (ds_one (ds_ret (do_mod (do_int1 rfl b_int (do_fdiv (do_nm (pv 2)) do_int)) (do_nm (pv 1)))))))))
/-! _law_bk_way -/
abbrev s_law_bk_way : Stmt := topS 37
theorem sc_law_bk_way : FnScope ["purse", "top", "found", "turn"] ["purse", "top"] (defScope s_law_bk_way) := ⟨rfl, rfl, rfl, by decide +kernel, rfl, by decide +kernel, by decide +kernel⟩
def t_law_bk_way (F_law_coin : DF) : DTS := (sSeq (sSet 2 (dC (S []))) (sSeq (sFor (iR1 (dCons (dCallM 2 F_law_coin (dCons (dN 0) (dCons (d2 gAdd (dN 1) (dC (.int 1))) dNil))) dNil)) (tgN 3) (sSet 2 (d2 gAdd (dN 2) (d2 gIx (dC (S [76, 82])) (dCallM 2 F_law_coin (dCons (dN 0) (dCons (dC (.int 2)) dNil))))))) (sRet (dN 2))))
abbrev PL_law_bk_way (F F_law_coin : DF) : Prop := ∀ (ds : List PyData) (q : PyData → PyData → Prop) (a : Addr), ds.length = 2 → F ds q → (t_law_bk_way F_law_coin) (endsD true a q) (startD true a 4 ds)
theorem ok_law_bk_way {P : Program} {w : World} {K : PySem.W.Frag} {mg : Str → Option Value} {base : Heap} {f : Addr} {fd : FuncData} {F F_law_coin : DF} (Fn : FunD K "_law_bk_way" "_law_bk_way" (defArgs s_law_bk_way) (defBody s_law_bk_way) (defScope s_law_bk_way) [] [] f fd) (k_law_coin : Know P w K mg base "_law_coin" 1 ["purse", "many"] true 2 F_law_coin) (b_range : mg "range" = none)
    (pl : PL_law_bk_way F F_law_coin) : FnOk P w K mg base CX0 2 f fd ["purse", "top"] (spD true 2 F) := by
  obtain ⟨f_law_coin, fd_law_coin, m_law_coin, kp_law_coin, bd_law_coin, G_law_coin⟩ := k_law_coin.ex
  refine okD Fn sc_law_bk_way rfl (fun cdv A outer s H E hr => ?_) pl
  unfold t_law_bk_way
  exact (ds_cons (ds_set sc_law_bk_way.nd rfl (.inl rfl) (do_strL [] (by decide +kernel))) (ds_cons (ds_for .never rfl (di_range1 rfl b_range (da_cons (do_callM G_law_coin (hr.mono (by decide)) rfl m_law_coin kp_law_coin bd_law_coin (da_cons (do_nm (pv 0)) (da_cons (do_add (do_nm (pv 1)) do_int) da_nil))) da_nil)) (dg_name sc_law_bk_way.nd rfl (.inl rfl)) (ds_one (ds_set sc_law_bk_way.nd rfl (.inl rfl) (do_add (do_nm (pv 2)) (do_ix (do_strL [76, 82] (by decide +kernel)) (do_callM G_law_coin (hr.mono (by decide)) rfl m_law_coin kp_law_coin bd_law_coin (da_cons (do_nm (pv 0)) (da_cons do_int da_nil))) (fun _ _ => rfl)))))) (ds_one (ds_ret (do_nm (pv 2))))))
/-! _law_bk_shape -/
abbrev s_law_bk_shape : Stmt := topS 38
theorem sc_law_bk_shape : FnScope ["purse", "many", "top", "rows", "state", "left", "right"] ["purse", "many", "top"] (defScope s_law_bk_shape) := ⟨rfl, rfl, rfl, by decide +kernel, rfl, by decide +kernel, by decide +kernel⟩
def t_law_bk_shape (F_law_bk_way F_law_coin : DF) : DTS := (sSeq (sSetF 3 (fLst dNil)) (sSeq (sFor (iR1 (dCons (dN 1) dNil)) (tgN 4) (sSeq (sSet 5 (dTup (dCons (dCallM 2 F_law_bk_way (dCons (dN 0) (dCons (dN 2) dNil))) (dCons (dCallM 2 F_law_coin (dCons (dN 0) (dCons (dN 1) dNil))) dNil)))) (sSeq (sSet 6 (dTup (dCons (dCallM 2 F_law_bk_way (dCons (dN 0) (dCons (dN 2) dNil))) (dCons (dCallM 2 F_law_coin (dCons (dN 0) (dCons (dN 1) dNil))) dNil)))) (sAppend 3 (dTup (dCons (dN 5) (dCons (dN 6) (dCons (dCallM 2 F_law_bk_way (dCons (dN 0) (dCons (dN 2) dNil))) dNil)))))))) (sRet (dTup (dCons (dCallM 2 F_law_bk_way (dCons (dN 0) (dCons (dN 2) dNil))) (dCons (dN 3) dNil))))))
abbrev PL_law_bk_shape (F F_law_bk_way F_law_coin : DF) : Prop := ∀ (ds : List PyData) (q : PyData → PyData → Prop) (a : Addr), ds.length = 3 → F ds q → (t_law_bk_shape F_law_bk_way F_law_coin) (endsD true a q) (startD true a 7 ds)
theorem ok_law_bk_shape {P : Program} {w : World} {K : PySem.W.Frag} {mg : Str → Option Value} {base : Heap} {f : Addr} {fd : FuncData} {F F_law_bk_way F_law_coin : DF} (Fn : FunD K "_law_bk_shape" "_law_bk_shape" (defArgs s_law_bk_shape) (defBody s_law_bk_shape) (defScope s_law_bk_shape) [] [] f fd) (k_law_bk_way : Know P w K mg base "_law_bk_way" 2 ["purse", "top"] true 2 F_law_bk_way) (k_law_coin : Know P w K mg base "_law_coin" 1 ["purse", "many"] true 2 F_law_coin) (b_range : mg "range" = none)
    (pl : PL_law_bk_shape F F_law_bk_way F_law_coin) : FnOk P w K mg base CX0 3 f fd ["purse", "many", "top"] (spD true 3 F) := by
  obtain ⟨f_law_bk_way, fd_law_bk_way, m_law_bk_way, kp_law_bk_way, bd_law_bk_way, G_law_bk_way⟩ := k_law_bk_way.ex
  obtain ⟨f_law_coin, fd_law_coin, m_law_coin, kp_law_coin, bd_law_coin, G_law_coin⟩ := k_law_coin.ex
  refine okD Fn sc_law_bk_shape rfl (fun cdv A outer s H E hr => ?_) pl
  unfold t_law_bk_shape
  exact (ds_cons (ds_setF sc_law_bk_shape.nd rfl (.inl rfl) (dfr_lst da_nil)) (ds_cons (ds_for .never rfl (di_range1 rfl b_range (da_cons (do_nm (pv 1)) da_nil)) (dg_name sc_law_bk_shape.nd rfl (.inl rfl)) (ds_cons (ds_set sc_law_bk_shape.nd rfl (.inl rfl) (do_tup (da_cons (do_callM G_law_bk_way (hr.mono (by decide)) rfl m_law_bk_way kp_law_bk_way bd_law_bk_way (da_cons (do_nm (pv 0)) (da_cons (do_nm (pv 2)) da_nil))) (da_cons (do_callM G_law_coin (hr.mono (by decide)) rfl m_law_coin kp_law_coin bd_law_coin (da_cons (do_nm (pv 0)) (da_cons (do_nm (pv 1)) da_nil))) da_nil)))) (ds_cons (ds_set sc_law_bk_shape.nd rfl (.inl rfl) (do_tup (da_cons (do_callM G_law_bk_way (hr.mono (by decide)) rfl m_law_bk_way kp_law_bk_way bd_law_bk_way (da_cons (do_nm (pv 0)) (da_cons (do_nm (pv 2)) da_nil))) (da_cons (do_callM G_law_coin (hr.mono (by decide)) rfl m_law_coin kp_law_coin bd_law_coin (da_cons (do_nm (pv 0)) (da_cons (do_nm (pv 1)) da_nil))) da_nil)))) (ds_one (ds_append (pv 3) (do_tup (da_cons (do_nm (pv 5)) (da_cons (do_nm (pv 6)) (da_cons (do_callM G_law_bk_way (hr.mono (by decide)) rfl m_law_bk_way kp_law_bk_way bd_law_bk_way (da_cons (do_nm (pv 0)) (da_cons (do_nm (pv 2)) da_nil))) da_nil))))))))) (ds_one (ds_ret (do_tup (da_cons (do_callM G_law_bk_way (hr.mono (by decide)) rfl m_law_bk_way kp_law_bk_way bd_law_bk_way (da_cons (do_nm (pv 0)) (da_cons (do_nm (pv 2)) da_nil))) (da_cons (do_nm (pv 3)) da_nil)))))))
/-! _law_bk_copied -/
abbrev s_law_bk_copied : Stmt := topS 39
theorem sc_law_bk_copied : FnScope ["thing", "entry"] ["thing"] (defScope s_law_bk_copied) := ⟨rfl, rfl, rfl, by decide +kernel, rfl, by decide +kernel, by decide +kernel⟩
theorem ok_law_bk_copied {P : Program} {w : World} {K : PySem.W.Frag} {mg : Str → Option Value} {base : Heap} {f : Addr} {fd : FuncData} (Fn : FunD K "_law_bk_copied" "_law_bk_copied" (defArgs s_law_bk_copied) (defBody s_law_bk_copied) (defScope s_law_bk_copied) [] [] f fd)
    (m_self : mg "_law_bk_copied" = some (.ref f)) (kp : PySem.W.keepIn K (.ref f) = true) (bd : L2.Binds K fd ["thing"] []) (b_isinstance : mg "isinstance" = none) (b_list : mg "list" = none) (b_tuple : mg "tuple" = none) :
    ∀ m, FnOk P w K mg base CX0 (m + 1) f fd ["thing"] (spCopy m) := by
  refine copy_ok Fn sc_law_bk_copied (fun cdv A outer s H E => ?_) (fun m G cdv A outer s H E hr => ?_)
  · exact pss_cons (ps_if (pt_val (pe_isi "list" (kit_lists K) rfl b_isinstance rfl b_list (by decide +kernel) (pv 0))) (pss_one ps_never) pss_nil)
      (pss_cons (ps_if (pt_val (pe_isi "tuple" (kit_tups K) rfl b_isinstance rfl b_tuple (by decide +kernel) (pv 0))) (pss_one ps_never) pss_nil) (pss_one (ps_ret (pv 0))))
  · exact pss_cons (ps_if (pt_val (pe_isi "list" (kit_lists K) rfl b_isinstance rfl b_list (by decide +kernel) (pv 0))) (pss_one (ps_ret (pe_copies rfl sc_law_bk_copied.nd rfl rfl (pv 0) (blkOk_by (N := ["thing", "entry"]) (sc := defScope s_law_bk_copied) (by decide +kernel)) (fun _ _ _ _ _ => pg_name sc_law_bk_copied.nd rfl (.inl rfl)) (fun _ _ _ _ _ => pe_call G hr rfl m_self kp bd .nil pass0 (pa_cons (pv 1) pa_nil))))) pss_nil)
      (pss_cons (ps_if (pt_val (pe_isi "tuple" (kit_tups K) rfl b_isinstance rfl b_tuple (by decide +kernel) (pv 0))) (pss_one (ps_ret (pe_callTy call_tuple_of rfl b_tuple (by decide +kernel) (pa_cons (pe_copies rfl sc_law_bk_copied.nd rfl rfl (pv 0) (blkOk_by (N := ["thing", "entry"]) (sc := defScope s_law_bk_copied) (by decide +kernel)) (fun _ _ _ _ _ => pg_name sc_law_bk_copied.nd rfl (.inl rfl)) (fun _ _ _ _ _ => pe_call G hr rfl m_self kp bd .nil pass0 (pa_cons (pv 1) pa_nil))) pa_nil)))) pss_nil) (pss_one (ps_ret (pv 0))))
/-! _law_bk_texts -/
abbrev s_law_bk_texts : Stmt := topS 40
theorem sc_law_bk_texts : FnScope ["top", "turn", "found", "line", "later", "text"] ["top"] (defScope s_law_bk_texts) := ⟨rfl, rfl, rfl, by decide +kernel, rfl, by decide +kernel, by decide +kernel⟩
def t_law_bk_texts : DTS := (sSeq (sPar 2 3 (afV (dLst (dCons (dC (S [])) dNil)) (afV (dLst (dCons (dC (S [])) dNil)) afNil))) (sSeq (sFor (iR1 (dCons (dN 0) dNil)) (tgN 1) (sSeq (sSet 4 (dLst dNil)) (sSeq (sFor (iAny (dN 3)) (tgN 5) (sSet 4 (d2 gCat (dN 4) (dLst (dCons (d2 gAdd (dN 5) (dC (S [76]))) (dCons (d2 gAdd (dN 5) (dC (S [82]))) dNil)))))) (sSeq (sSet 3 (dN 4)) (sSet 2 (d2 gCat (dN 2) (dN 3))))))) (sRet (dN 2))))
abbrev PL_law_bk_texts (F  : DF) : Prop := ∀ (ds : List PyData) (q : PyData → PyData → Prop) (a : Addr), ds.length = 1 → F ds q → (t_law_bk_texts) (endsD false a q) (startD false a 6 ds)
theorem ok_law_bk_texts {P : Program} {w : World} {K : PySem.W.Frag} {mg : Str → Option Value} {base : Heap} {f : Addr} {fd : FuncData} {F  : DF} (Fn : FunD K "_law_bk_texts" "_law_bk_texts" (defArgs s_law_bk_texts) (defBody s_law_bk_texts) (defScope s_law_bk_texts) [] [] f fd) (b_range : mg "range" = none)
    (pl : PL_law_bk_texts F) : FnOk P w K mg base CX0 1 f fd ["top"] (spD false 1 F) := by
  refine okD Fn sc_law_bk_texts rfl (fun cdv A outer s H E hr => ?_) pl
  unfold t_law_bk_texts
  exact (ds_cons (ds_par rfl sc_law_bk_texts.nd rfl rfl (by decide) rfl rfl (daf_v (do_lst (da_cons (do_strL [] (by decide +kernel)) da_nil)) (daf_v (do_lst (da_cons (do_strL [] (by decide +kernel)) da_nil)) daf_nil)) rfl) (ds_cons (ds_for .never rfl (di_range1 rfl b_range (da_cons (do_nm (pv 0)) da_nil)) (dg_name sc_law_bk_texts.nd rfl (.inl rfl)) (ds_cons (ds_set sc_law_bk_texts.nd rfl (.inl rfl) (do_lst da_nil)) (ds_cons (ds_for .never rfl (di_any (do_nm (pv 3))) (dg_name sc_law_bk_texts.nd rfl (.inl rfl)) (ds_one (ds_set sc_law_bk_texts.nd rfl (.inl rfl) (do_cat (do_nm (pv 4)) (do_lst (da_cons (do_add (do_nm (pv 5)) (do_strL [76] (by decide +kernel))) (da_cons (do_add (do_nm (pv 5)) (do_strL [82] (by decide +kernel))) da_nil))))))) (ds_cons (ds_set sc_law_bk_texts.nd rfl (.inl rfl) (do_nm (pv 4))) (ds_one (ds_set sc_law_bk_texts.nd rfl (.inl rfl) (do_cat (do_nm (pv 2)) (do_nm (pv 3))))))))) (ds_one (ds_ret (do_nm (pv 2))))))
/-! _law_bk_walk -/
abbrev s_law_bk_walk : Stmt := topS 41
theorem sc_law_bk_walk : FnScope ["shape", "way", "sign", "found", "state", "text"] ["shape", "way"] (defScope s_law_bk_walk) := ⟨rfl, rfl, rfl, by decide +kernel, rfl, by decide +kernel, by decide +kernel⟩
def t_law_bk_walk : DTS := (sSeq (sPar 3 4 (afV (d2 gIx (dN 0) (dC (.int 0))) (afV (dC (.int 0)) afNil))) (sSeq (sFor (iAny (dN 1)) (tgN 2) (sSeq (sAsg (d2 gIx (d2 gIx (d2 gIx (dN 0) (dC (.int 1))) (dN 4)) (dM1 gIndex (dC (S [76, 82])) (dN 2))) (tgSeq 2 (tgCons (tgN 5) (tgCons (tgN 4) tgNil)))) (sSet 3 (d2 gAdd (dN 3) (dN 5))))) (sRet (dTup (dCons (dN 3) (dCons (dN 4) dNil))))))
abbrev PL_law_bk_walk (F  : DF) : Prop := ∀ (ds : List PyData) (q : PyData → PyData → Prop) (a : Addr), ds.length = 2 → F ds q → (t_law_bk_walk) (endsD false a q) (startD false a 6 ds)
theorem ok_law_bk_walk {P : Program} {w : World} {K : PySem.W.Frag} {mg : Str → Option Value} {base : Heap} {f : Addr} {fd : FuncData} {F  : DF} (Fn : FunD K "_law_bk_walk" "_law_bk_walk" (defArgs s_law_bk_walk) (defBody s_law_bk_walk) (defScope s_law_bk_walk) [] [] f fd)
    (pl : PL_law_bk_walk F) : FnOk P w K mg base CX0 1 f fd ["shape", "way"] (spD false 2 F) := by
  refine okD Fn sc_law_bk_walk rfl (fun cdv A outer s H E hr => ?_) pl
  unfold t_law_bk_walk
  exact (ds_cons (ds_par rfl sc_law_bk_walk.nd rfl rfl (by decide) rfl rfl (daf_v (do_ix (do_nm (pv 0)) do_int (fun _ _ => rfl)) (daf_v do_int daf_nil)) rfl) (ds_cons (ds_for .never rfl (di_any (do_nm (pv 1))) (dg_name sc_law_bk_walk.nd rfl (.inl rfl)) (ds_cons (ds_asg (do_ix (do_ix (do_ix (do_nm (pv 0)) do_int (fun _ _ => rfl)) (do_nm (pv 4)) (fun _ _ => rfl)) (do_index (do_strL [76, 82] (by decide +kernel)) (do_nm (pv 2))) (fun _ _ => rfl)) (dg_seq (n := 2) rfl (dgs_cons (dg_name sc_law_bk_walk.nd rfl (.inl rfl)) (dgs_cons (dg_name sc_law_bk_walk.nd rfl (.inl rfl)) dgs_nil)))) (ds_one (ds_set sc_law_bk_walk.nd rfl (.inl rfl) (do_add (do_nm (pv 3)) (do_nm (pv 5))))))) (ds_one (ds_ret (do_tup (da_cons (do_nm (pv 3)) (da_cons (do_nm (pv 4)) da_nil)))))))
/-! _law_bk_run -/
abbrev s_law_bk_run : Stmt := topS 42
theorem sc_law_bk_run : FnScope ["shape", "way", "found", "state"] ["shape", "way"] (defScope s_law_bk_run) := ⟨rfl, rfl, rfl, by decide +kernel, rfl, by decide +kernel, by decide +kernel⟩
def t_law_bk_run (F_law_bk_walk : DF) : DTS := (sSeq (sAsg (dCall 2 F_law_bk_walk (dCons (dN 0) (dCons (dN 1) dNil))) (tgSeq 2 (tgCons (tgN 2) (tgCons (tgN 3) tgNil)))) (sRet (d2 gAdd (dN 2) (d2 gIx (d2 gIx (d2 gIx (dN 0) (dC (.int 1))) (dN 3)) (dC (.int 2))))))
abbrev PL_law_bk_run (F F_law_bk_walk : DF) : Prop := ∀ (ds : List PyData) (q : PyData → PyData → Prop) (a : Addr), ds.length = 2 → F ds q → (t_law_bk_run F_law_bk_walk) (endsD false a q) (startD false a 4 ds)
theorem ok_law_bk_run {P : Program} {w : World} {K : PySem.W.Frag} {mg : Str → Option Value} {base : Heap} {f : Addr} {fd : FuncData} {F F_law_bk_walk : DF} (Fn : FunD K "_law_bk_run" "_law_bk_run" (defArgs s_law_bk_run) (defBody s_law_bk_run) (defScope s_law_bk_run) [] [] f fd) (k_law_bk_walk : Know P w K mg base "_law_bk_walk" 1 ["shape", "way"] false 2 F_law_bk_walk)
    (pl : PL_law_bk_run F F_law_bk_walk) : FnOk P w K mg base CX0 2 f fd ["shape", "way"] (spD false 2 F) := by
  obtain ⟨f_law_bk_walk, fd_law_bk_walk, m_law_bk_walk, kp_law_bk_walk, bd_law_bk_walk, G_law_bk_walk⟩ := k_law_bk_walk.ex
  refine okD Fn sc_law_bk_run rfl (fun cdv A outer s H E hr => ?_) pl
  unfold t_law_bk_run
  exact (ds_cons (ds_asg (do_call G_law_bk_walk (hr.mono (by decide)) rfl m_law_bk_walk kp_law_bk_walk bd_law_bk_walk (da_cons (do_nm (pv 0)) (da_cons (do_nm (pv 1)) da_nil))) (dg_seq (n := 2) rfl (dgs_cons (dg_name sc_law_bk_run.nd rfl (.inl rfl)) (dgs_cons (dg_name sc_law_bk_run.nd rfl (.inl rfl)) dgs_nil)))) (ds_one (ds_ret (do_add (do_nm (pv 2)) (do_ix (do_ix (do_ix (do_nm (pv 0)) do_int (fun _ _ => rfl)) (do_nm (pv 3)) (fun _ _ => rfl)) do_int (fun _ _ => rfl))))))
/-! _law_bk_share -/
abbrev s_law_bk_share : Stmt := topS 43
theorem sc_law_bk_share : FnScope ["near", "far", "turn"] ["near", "far"] (defScope s_law_bk_share) := ⟨rfl, rfl, rfl, by decide +kernel, rfl, by decide +kernel, by decide +kernel⟩
def t_law_bk_share : DTS := (sSeq (sPar 0 1 (afV (dB1 (g1 gAbs) (dCons (dN 0) dNil)) (afV (dB1 (g1 gAbs) (dCons (dN 1) dNil)) afNil))) (sSeq (sFor (iR1 (dCons (dC (.int 4000)) dNil)) (tgN 2) (sSeq (sIf (dB (d2x (gEq id) (dN 1) (dC (.int 0)))) (sRet (dN 0)) sNext) (sPar 0 1 (afV (dN 1) (afV (d2 gMod (dB1 (g1 gInt) (dCons (dN 0) dNil)) (dB1 (g1 gInt) (dCons (dN 1) dNil))) afNil))))) (sRet (dN 0))))
abbrev PL_law_bk_share (F  : DF) : Prop := ∀ (ds : List PyData) (q : PyData → PyData → Prop) (a : Addr), ds.length = 2 → F ds q → (t_law_bk_share) (endsD false a q) (startD false a 3 ds)
theorem ok_law_bk_share {P : Program} {w : World} {K : PySem.W.Frag} {mg : Str → Option Value} {base : Heap} {f : Addr} {fd : FuncData} {F  : DF} (Fn : FunD K "_law_bk_share" "_law_bk_share" (defArgs s_law_bk_share) (defBody s_law_bk_share) (defScope s_law_bk_share) [] [] f fd) (b_abs : mg "abs" = none) (b_range : mg "range" = none) (b_int : mg "int" = none)
    (pl : PL_law_bk_share F) : FnOk P w K mg base CX0 1 f fd ["near", "far"] (spD false 2 F) := by
  refine okD Fn sc_law_bk_share rfl (fun cdv A outer s H E hr => ?_) pl
  unfold t_law_bk_share
  exact (ds_cons (ds_par rfl sc_law_bk_share.nd rfl rfl (by decide) rfl rfl (daf_v (do_abs rfl b_abs (do_nm (pv 0))) (daf_v (do_abs rfl b_abs (do_nm (pv 1))) daf_nil)) rfl) (ds_cons (ds_for .never rfl (di_range1 rfl b_range (da_cons do_int da_nil)) (dg_name sc_law_bk_share.nd rfl (.inl rfl)) (ds_cons (ds_if (dp_eq hr.units (do_nm (pv 1)) do_int) (ds_one (ds_ret (do_nm (pv 0)))) ds_nil) (ds_one (ds_par rfl sc_law_bk_share.nd rfl rfl (by decide) rfl rfl (daf_v (do_nm (pv 1)) (daf_v (do_mod (do_int1 rfl b_int (do_nm (pv 0))) (do_int1 rfl b_int (do_nm (pv 1)))) daf_nil)) rfl)))) (ds_one (ds_ret (do_nm (pv 0))))))
/-! _law_bk_number -/
abbrev s_law_bk_number : Stmt := topS 44
theorem sc_law_bk_number : FnScope ["way", "sign", "up", "down"] ["way"] (defScope s_law_bk_number) := ⟨rfl, rfl, rfl, by decide +kernel, rfl, by decide +kernel, by decide +kernel⟩
def t_law_bk_number : DTS := (sSeq (sAsg (dTup (dCons (dC (.int 1)) (dCons (dC (.int 1)) dNil))) (tgSeq 2 (tgCons (tgN 2) (tgCons (tgN 3) tgNil)))) (sSeq (sFor (iAny (d1 gRevS (dN 0))) (tgN 1) (sIf (dB (d2x (gEq id) (dN 1) (dC (S [82])))) (sSet 2 (d2 gAdd (dN 2) (dN 3))) (sSet 3 (d2 gAdd (dN 2) (dN 3))))) (sRet (dTup (dCons (dN 2) (dCons (dN 3) dNil))))))
abbrev PL_law_bk_number (F  : DF) : Prop := ∀ (ds : List PyData) (q : PyData → PyData → Prop) (a : Addr), ds.length = 1 → F ds q → (t_law_bk_number) (endsD false a q) (startD false a 4 ds)
theorem ok_law_bk_number {P : Program} {w : World} {K : PySem.W.Frag} {mg : Str → Option Value} {base : Heap} {f : Addr} {fd : FuncData} {F  : DF} (Fn : FunD K "_law_bk_number" "_law_bk_number" (defArgs s_law_bk_number) (defBody s_law_bk_number) (defScope s_law_bk_number) [] [] f fd)
    (pl : PL_law_bk_number F) : FnOk P w K mg base CX0 1 f fd ["way"] (spD false 1 F) := by
  refine okD Fn sc_law_bk_number rfl (fun cdv A outer s H E hr => ?_) pl
  unfold t_law_bk_number
  exact (ds_cons (ds_asg (do_tup (da_cons do_int (da_cons do_int da_nil))) (dg_seq (n := 2) rfl (dgs_cons (dg_name sc_law_bk_number.nd rfl (.inl rfl)) (dgs_cons (dg_name sc_law_bk_number.nd rfl (.inl rfl)) dgs_nil)))) (ds_cons (ds_for .never rfl (di_any (do_revS (do_nm (pv 0)))) (dg_name sc_law_bk_number.nd rfl (.inl rfl)) (ds_one (ds_if (dp_eq hr.units (do_nm (pv 1)) (do_strL [82] (by decide +kernel))) (ds_one (ds_set sc_law_bk_number.nd rfl (.inl rfl) (do_add (do_nm (pv 2)) (do_nm (pv 3))))) (ds_one (ds_set sc_law_bk_number.nd rfl (.inl rfl) (do_add (do_nm (pv 2)) (do_nm (pv 3)))))))) (ds_one (ds_ret (do_tup (da_cons (do_nm (pv 2)) (da_cons (do_nm (pv 3)) da_nil)))))))
/-! _law_bk_least -/
abbrev s_law_bk_least : Stmt := topS 45
theorem sc_law_bk_least : FnScope ["four", "part", "entry"] ["four"] (defScope s_law_bk_least) := ⟨rfl, rfl, rfl, by decide +kernel, rfl, by decide +kernel, by decide +kernel⟩
def t_law_bk_least (F_law_bk_share : DF) : DTS := (sSeq (sSet 1 (dC (.int 0))) (sSeq (sFor (iAny (dN 0)) (tgN 2) (sSet 1 (dCall 2 F_law_bk_share (dCons (dN 1) (dCons (dN 2) dNil))))) (sRet (dB1 (g1 gTupOf) (dCons (dOfF (fLc (iAny (dN 0)) (tgN 2) dYes (d2 gDiv (dN 2) (dB1 gMax (dCons (dC (.int 1)) (dCons (dN 1) dNil)))) [2])) dNil)))))
abbrev PL_law_bk_least (F F_law_bk_share : DF) : Prop := ∀ (ds : List PyData) (q : PyData → PyData → Prop) (a : Addr), ds.length = 1 → F ds q → (t_law_bk_least F_law_bk_share) (endsD false a q) (startD false a 3 ds)
theorem ok_law_bk_least {P : Program} {w : World} {K : PySem.W.Frag} {mg : Str → Option Value} {base : Heap} {f : Addr} {fd : FuncData} {F F_law_bk_share : DF} (Fn : FunD K "_law_bk_least" "_law_bk_least" (defArgs s_law_bk_least) (defBody s_law_bk_least) (defScope s_law_bk_least) [] [] f fd) (k_law_bk_share : Know P w K mg base "_law_bk_share" 1 ["near", "far"] false 2 F_law_bk_share) (b_tuple : mg "tuple" = none) (b_max : mg "max" = none)
    (pl : PL_law_bk_least F F_law_bk_share) : FnOk P w K mg base CX0 2 f fd ["four"] (spD false 1 F) := by
  obtain ⟨f_law_bk_share, fd_law_bk_share, m_law_bk_share, kp_law_bk_share, bd_law_bk_share, G_law_bk_share⟩ := k_law_bk_share.ex
  refine okD Fn sc_law_bk_least rfl (fun cdv A outer s H E hr => ?_) pl
  unfold t_law_bk_least
  exact (ds_cons (ds_set sc_law_bk_least.nd rfl (.inr rfl) do_int) (ds_cons (ds_for .never rfl (di_any (do_nm (pv 0))) (dg_name sc_law_bk_least.nd rfl (.inl rfl)) (ds_one (ds_set sc_law_bk_least.nd rfl (.inr rfl) (do_call G_law_bk_share (hr.mono (by decide)) rfl m_law_bk_share kp_law_bk_share bd_law_bk_share (da_cons (do_nm (pv 1)) (da_cons (do_nm (pv 2)) da_nil)))))) (ds_one (ds_ret (do_tupOf rfl b_tuple (do_f (dfr_lc (own := [("entry", 2)]) (by decide) rfl sc_law_bk_least.nd (di_any (do_nm (pv 0))) (blkOk_by (N := ["four", "part", "entry"]) (sc := defScope s_law_bk_least) (by decide +kernel)) (fun _ _ _ _ _ => (dg_name sc_law_bk_least.nd rfl (.inl rfl))) (fun _ _ _ _ _ => dts_nil) (fun _ _ _ _ _ => (do_fdiv (do_nm (pv 2)) (do_max2 rfl rfl b_max (da_cons do_int (da_cons (do_nm (pv 1)) da_nil))))))))))))
/-! _law_bk_sent -/
abbrev s_law_bk_sent : Stmt := topS 46
theorem sc_law_bk_sent : FnScope ["chart", "pair", "up", "down", "part"] ["chart", "pair"] (defScope s_law_bk_sent) := ⟨rfl, rfl, rfl, by decide +kernel, rfl, by decide +kernel, by decide +kernel⟩
def t_law_bk_sent (F_law_bk_share : DF) : DTS := (sSeq (sSet 2 (d2 gAdd (d2 gMul (d2 gIx (dN 0) (dC (.int 0))) (d2 gIx (dN 1) (dC (.int 0)))) (d2 gMul (d2 gIx (dN 0) (dC (.int 1))) (d2 gIx (dN 1) (dC (.int 1)))))) (sSeq (sSet 3 (d2 gAdd (d2 gMul (d2 gIx (dN 0) (dC (.int 2))) (d2 gIx (dN 1) (dC (.int 0)))) (d2 gMul (d2 gIx (dN 0) (dC (.int 3))) (d2 gIx (dN 1) (dC (.int 1)))))) (sSeq (sSet 4 (dB1 gMax (dCons (dC (.int 1)) (dCons (dCall 2 F_law_bk_share (dCons (dN 2) (dCons (dN 3) dNil))) dNil)))) (sRet (dTup (dCons (d2 gDiv (dN 2) (dN 4)) (dCons (d2 gDiv (dN 3) (dN 4)) dNil)))))))
abbrev PL_law_bk_sent (F F_law_bk_share : DF) : Prop := ∀ (ds : List PyData) (q : PyData → PyData → Prop) (a : Addr), ds.length = 2 → F ds q → (t_law_bk_sent F_law_bk_share) (endsD false a q) (startD false a 5 ds)
theorem ok_law_bk_sent {P : Program} {w : World} {K : PySem.W.Frag} {mg : Str → Option Value} {base : Heap} {f : Addr} {fd : FuncData} {F F_law_bk_share : DF} (Fn : FunD K "_law_bk_sent" "_law_bk_sent" (defArgs s_law_bk_sent) (defBody s_law_bk_sent) (defScope s_law_bk_sent) [] [] f fd) (k_law_bk_share : Know P w K mg base "_law_bk_share" 1 ["near", "far"] false 2 F_law_bk_share) (b_max : mg "max" = none)
    (pl : PL_law_bk_sent F F_law_bk_share) : FnOk P w K mg base CX0 2 f fd ["chart", "pair"] (spD false 2 F) := by
  obtain ⟨f_law_bk_share, fd_law_bk_share, m_law_bk_share, kp_law_bk_share, bd_law_bk_share, G_law_bk_share⟩ := k_law_bk_share.ex
  refine okD Fn sc_law_bk_sent rfl (fun cdv A outer s H E hr => ?_) pl
  unfold t_law_bk_sent
  exact (ds_cons (ds_set sc_law_bk_sent.nd rfl (.inl rfl) (do_add (do_mul (do_ix (do_nm (pv 0)) do_int (fun _ _ => rfl)) (do_ix (do_nm (pv 1)) do_int (fun _ _ => rfl))) (do_mul (do_ix (do_nm (pv 0)) do_int (fun _ _ => rfl)) (do_ix (do_nm (pv 1)) do_int (fun _ _ => rfl))))) (ds_cons (ds_set sc_law_bk_sent.nd rfl (.inl rfl) (do_add (do_mul (do_ix (do_nm (pv 0)) do_int (fun _ _ => rfl)) (do_ix (do_nm (pv 1)) do_int (fun _ _ => rfl))) (do_mul (do_ix (do_nm (pv 0)) do_int (fun _ _ => rfl)) (do_ix (do_nm (pv 1)) do_int (fun _ _ => rfl))))) (ds_cons (ds_set sc_law_bk_sent.nd rfl (.inl rfl) (do_max2 rfl rfl b_max (da_cons do_int (da_cons (do_call G_law_bk_share (hr.mono (by decide)) rfl m_law_bk_share kp_law_bk_share bd_law_bk_share (da_cons (do_nm (pv 2)) (da_cons (do_nm (pv 3)) da_nil))) da_nil)))) (ds_one (ds_ret (do_tup (da_cons (do_fdiv (do_nm (pv 2)) (do_nm (pv 4))) (da_cons (do_fdiv (do_nm (pv 3)) (do_nm (pv 4))) da_nil))))))))
/-! _law_bk_worth -/
abbrev s_law_bk_worth : Stmt := topS 47
theorem sc_law_bk_worth : FnScope ["four"] ["four"] (defScope s_law_bk_worth) := ⟨rfl, rfl, rfl, by decide +kernel, rfl, by decide +kernel, by decide +kernel⟩
def t_law_bk_worth : DTS := (sRet (d2 gSub (d2 gMul (d2 gIx (dN 0) (dC (.int 0))) (d2 gIx (dN 0) (dC (.int 3)))) (d2 gMul (d2 gIx (dN 0) (dC (.int 1))) (d2 gIx (dN 0) (dC (.int 2))))))
abbrev PL_law_bk_worth (F  : DF) : Prop := ∀ (ds : List PyData) (q : PyData → PyData → Prop) (a : Addr), ds.length = 1 → F ds q → (t_law_bk_worth) (endsD false a q) (startD false a 1 ds)
theorem ok_law_bk_worth {P : Program} {w : World} {K : PySem.W.Frag} {mg : Str → Option Value} {base : Heap} {f : Addr} {fd : FuncData} {F  : DF} (Fn : FunD K "_law_bk_worth" "_law_bk_worth" (defArgs s_law_bk_worth) (defBody s_law_bk_worth) (defScope s_law_bk_worth) [] [] f fd)
    (pl : PL_law_bk_worth F) : FnOk P w K mg base CX0 1 f fd ["four"] (spD false 1 F) := by
  refine okD Fn sc_law_bk_worth rfl (fun cdv A outer s H E hr => ?_) pl
  unfold t_law_bk_worth
  exact (ds_one (ds_ret (do_sub (do_mul (do_ix (do_nm (pv 0)) do_int (fun _ _ => rfl)) (do_ix (do_nm (pv 0)) do_int (fun _ _ => rfl))) (do_mul (do_ix (do_nm (pv 0)) do_int (fun _ _ => rfl)) (do_ix (do_nm (pv 0)) do_int (fun _ _ => rfl))))))
/-! _law_bk_chart -/
abbrev s_law_bk_chart : Stmt := topS 48
theorem sc_law_bk_chart : FnScope ["purse", "top", "most_size", "turn", "span", "four", "spot"] ["purse", "top", "most_size"] (defScope s_law_bk_chart) := ⟨rfl, rfl, rfl, by decide +kernel, rfl, by decide +kernel, by decide +kernel⟩
def t_law_bk_chart (F_law_coin F_law_bk_least F_law_bk_worth : DF) : DTS := (sSeq (sFor (iR1 (dCons (dC (.int 20)) dNil)) (tgN 3) (sSeq (sSet 4 (d2 gAdd (dC (.int 2)) (dCallM 2 F_law_coin (dCons (dN 0) (dCons (dN 1) dNil))))) (sSeq (sSet 5 (dCall 1 F_law_bk_least (dCons (dOfF (fLc (iR1 (dCons (dC (.int 4)) dNil)) (tgN 6) dYes (dCallM 2 F_law_coin (dCons (dN 0) (dCons (dN 4) dNil))) [6])) dNil))) (sIf (dB (dCh gLt gLe (dC (.int 0)) (dB1 (g1 gAbs) (dCons (dCall 1 F_law_bk_worth (dCons (dN 5) dNil)) dNil)) (dN 2))) (sRet (dN 5)) sNext)))) (sRet (dTup (dCons (dC (.int 2)) (dCons (dC (.int 1)) (dCons (dC (.int 1)) (dCons (dC (.int 1)) dNil)))))))
abbrev PL_law_bk_chart (F F_law_coin F_law_bk_least F_law_bk_worth : DF) : Prop := ∀ (ds : List PyData) (q : PyData → PyData → Prop) (a : Addr), ds.length = 3 → F ds q → (t_law_bk_chart F_law_coin F_law_bk_least F_law_bk_worth) (endsD true a q) (startD true a 7 ds)
theorem ok_law_bk_chart {P : Program} {w : World} {K : PySem.W.Frag} {mg : Str → Option Value} {base : Heap} {f : Addr} {fd : FuncData} {F F_law_coin F_law_bk_least F_law_bk_worth : DF} (Fn : FunD K "_law_bk_chart" "_law_bk_chart" (defArgs s_law_bk_chart) (defBody s_law_bk_chart) (defScope s_law_bk_chart) [] [] f fd) (k_law_coin : Know P w K mg base "_law_coin" 1 ["purse", "many"] true 2 F_law_coin) (k_law_bk_least : Know P w K mg base "_law_bk_least" 2 ["four"] false 1 F_law_bk_least) (k_law_bk_worth : Know P w K mg base "_law_bk_worth" 1 ["four"] false 1 F_law_bk_worth) (b_range : mg "range" = none) (b_abs : mg "abs" = none)
    (pl : PL_law_bk_chart F F_law_coin F_law_bk_least F_law_bk_worth) : FnOk P w K mg base CX0 3 f fd ["purse", "top", "most_size"] (spD true 3 F) := by
  obtain ⟨f_law_coin, fd_law_coin, m_law_coin, kp_law_coin, bd_law_coin, G_law_coin⟩ := k_law_coin.ex
  obtain ⟨f_law_bk_least, fd_law_bk_least, m_law_bk_least, kp_law_bk_least, bd_law_bk_least, G_law_bk_least⟩ := k_law_bk_least.ex
  obtain ⟨f_law_bk_worth, fd_law_bk_worth, m_law_bk_worth, kp_law_bk_worth, bd_law_bk_worth, G_law_bk_worth⟩ := k_law_bk_worth.ex
  refine okD Fn sc_law_bk_chart rfl (fun cdv A outer s H E hr => ?_) pl
  unfold t_law_bk_chart
  exact (ds_cons (ds_for .never rfl (di_range1 rfl b_range (da_cons do_int da_nil)) (dg_name sc_law_bk_chart.nd rfl (.inl rfl)) (ds_cons (ds_set sc_law_bk_chart.nd rfl (.inr rfl) (do_add do_int (do_callM G_law_coin (hr.mono (by decide)) rfl m_law_coin kp_law_coin bd_law_coin (da_cons (do_nm (pv 0)) (da_cons (do_nm (pv 1)) da_nil))))) (ds_cons (ds_set sc_law_bk_chart.nd rfl (.inl rfl) (do_call G_law_bk_least (hr.mono (by decide)) rfl m_law_bk_least kp_law_bk_least bd_law_bk_least (da_cons (do_f (dfr_lc (own := [("spot", 6)]) (by decide) rfl sc_law_bk_chart.nd (di_range1 rfl b_range (da_cons do_int da_nil)) (blkOk_by (N := ["purse", "top", "most_size", "turn", "span", "four", "spot"]) (sc := defScope s_law_bk_chart) (by decide +kernel)) (fun _ _ _ _ _ => (dg_name sc_law_bk_chart.nd rfl (.inl rfl))) (fun _ _ _ _ _ => dts_nil) (fun _ _ _ _ _ => (do_callM G_law_coin (hr.mono (by decide)) rfl m_law_coin kp_law_coin bd_law_coin (da_cons (do_nm (pv 0)) (da_cons (do_nm (pv 4)) da_nil)))))) da_nil))) (ds_one (ds_if (dp_chain op_lt op_le fit_rB0 fit_rB0 do_int (do_abs rfl b_abs (do_call G_law_bk_worth (hr.mono (by decide)) rfl m_law_bk_worth kp_law_bk_worth bd_law_bk_worth (da_cons (do_nm (pv 5)) da_nil))) (do_nm (pv 2))) (ds_one (ds_ret (do_nm (pv 5)))) ds_nil))))) (ds_one (ds_ret (do_tup (da_cons do_int (da_cons do_int (da_cons do_int (da_cons do_int da_nil))))))))
/-! _law_bk_road -/
abbrev s_law_bk_road : Stmt := topS 49
theorem sc_law_bk_road : FnScope ["pair", "found", "turn", "up", "down"] ["pair"] (defScope s_law_bk_road) := ⟨rfl, rfl, rfl, by decide +kernel, rfl, by decide +kernel, by decide +kernel⟩
def t_law_bk_road : DTS := (sSeq (sSet 1 (dC (S []))) (sSeq (sAsg (dN 0) (tgSeq 2 (tgCons (tgN 3) (tgCons (tgN 4) tgNil)))) (sSeq (sFor (iR1 (dCons (dC (.int 4000)) dNil)) (tgN 2) (sSeq (sIf (dB (d2x (gEq id) (dN 3) (dN 4))) (sRet (dN 1)) sNext) (sIf (dB (d2 gGt (dN 3) (dN 4))) (sPar 1 3 (afV (d2 gAdd (dN 1) (dC (S [82]))) (afV (d2 gSub (dN 3) (dN 4)) afNil))) (sPar 1 4 (afV (d2 gAdd (dN 1) (dC (S [76]))) (afV (d2 gSub (dN 4) (dN 3)) afNil)))))) (sRet (dN 1)))))
abbrev PL_law_bk_road (F  : DF) : Prop := ∀ (ds : List PyData) (q : PyData → PyData → Prop) (a : Addr), ds.length = 1 → F ds q → (t_law_bk_road) (endsD false a q) (startD false a 5 ds)
theorem ok_law_bk_road {P : Program} {w : World} {K : PySem.W.Frag} {mg : Str → Option Value} {base : Heap} {f : Addr} {fd : FuncData} {F  : DF} (Fn : FunD K "_law_bk_road" "_law_bk_road" (defArgs s_law_bk_road) (defBody s_law_bk_road) (defScope s_law_bk_road) [] [] f fd) (b_range : mg "range" = none)
    (pl : PL_law_bk_road F) : FnOk P w K mg base CX0 1 f fd ["pair"] (spD false 1 F) := by
  refine okD Fn sc_law_bk_road rfl (fun cdv A outer s H E hr => ?_) pl
  unfold t_law_bk_road
  exact (ds_cons (ds_set sc_law_bk_road.nd rfl (.inl rfl) (do_strL [] (by decide +kernel))) (ds_cons (ds_asg (do_nm (pv 0)) (dg_seq (n := 2) rfl (dgs_cons (dg_name sc_law_bk_road.nd rfl (.inl rfl)) (dgs_cons (dg_name sc_law_bk_road.nd rfl (.inl rfl)) dgs_nil)))) (ds_cons (ds_for .never rfl (di_range1 rfl b_range (da_cons do_int da_nil)) (dg_name sc_law_bk_road.nd rfl (.inl rfl)) (ds_cons (ds_if (dp_eq hr.units (do_nm (pv 3)) (do_nm (pv 4))) (ds_one (ds_ret (do_nm (pv 1)))) ds_nil) (ds_one (ds_if (dp_gt (do_nm (pv 3)) (do_nm (pv 4))) (ds_one (ds_par rfl sc_law_bk_road.nd rfl rfl (by decide) rfl rfl (daf_v (do_add (do_nm (pv 1)) (do_strL [82] (by decide +kernel))) (daf_v (do_sub (do_nm (pv 3)) (do_nm (pv 4))) daf_nil)) rfl)) (ds_one (ds_par rfl sc_law_bk_road.nd rfl rfl (by decide) rfl rfl (daf_v (do_add (do_nm (pv 1)) (do_strL [76] (by decide +kernel))) (daf_v (do_sub (do_nm (pv 4)) (do_nm (pv 3))) daf_nil)) rfl)))))) (ds_one (ds_ret (do_nm (pv 1)))))))
/-! _law_right -/
abbrev s_law_right : Stmt := topS 50
theorem sc_law_right : FnScope ["purse", "shape", "size_here", "due", "given", "found", "later", "chart", "way"] ["purse"] (defScope s_law_right) := ⟨rfl, rfl, rfl, by decide +kernel, rfl, by decide +kernel, by decide +kernel⟩
def t_law_right (F_law_bk_shape F_law_coin F_law_bk_texts F_law_bk_run F_table_of F_law_bk_chart F_law_bk_road F_law_bk_sent F_law_bk_number F_machine_of : DF) : DTS := (sSeq (sSet 1 (dCallM 3 F_law_bk_shape (dCons (dN 0) (dCons (d2 gAdd (dC (.int 1)) (dCallM 2 F_law_coin (dCons (dN 0) (dCons (dC (.int 8)) dNil)))) (dCons (dCallM 2 F_law_coin (dCons (dN 0) (dCons (dC (.int 5)) dNil))) dNil))))) (sSeq (sSet 2 (dCallM 2 F_law_coin (dCons (dN 0) (dCons (dC (.int 8)) dNil)))) (sSeq (sSetV 3 (fLc (iAny (dCall 1 F_law_bk_texts (dCons (dN 2) dNil))) (tgN 8) dYes (dCall 2 F_law_bk_run (dCons (dN 1) (dCons (dN 8) dNil))) [8])) (sSeq (sSetCopy 4 4 (dN 1)) (sSeq (sSetN 5 2 F_table_of (dCons (dN 4) (dCons (dN 2) dNil))) (sSeq (sIf (dB (d2 (gEqS (!·)) (dRepr (dN 5)) (dRepr (dN 3)))) (sRet (dC (.bool false))) sNext) (sSeq (sAppend 5 (dC (S [76]))) (sSeq (sSetIx 5 (dC (.int 0)) (dC (S [77]))) (sSeq (sSetN 6 2 F_table_of (dCons (dN 4) (dCons (dC (.int 1)) dNil))) (sSeq (sIf (dB (d2 (gEqS (!·)) (dRepr (dN 6)) (dRepr (dOfF (fLc (iAny (dTup (dCons (dC (S [])) (dCons (dC (S [76])) (dCons (dC (S [82])) dNil))))) (tgN 8) dYes (dCall 2 F_law_bk_run (dCons (dN 1) (dCons (dN 8) dNil))) [8]))))) (sRet (dC (.bool false))) sNext) (sSeq (sIf (dOr (dB (d2 (gEqS (!·)) (dRepr (dCallN 2 F_table_of (dCons (dN 4) (dCons (dN 2) dNil)))) (dRepr (dN 3)))) (dOr (dB (d2x (gEq (!·)) (dN 4) (dN 1))) (dB (d2x (gEq (!·)) (dB1 (g1 gLen) (dCons (dN 6) dNil)) (dC (.int 3)))))) (sRet (dC (.bool false))) sNext) (sSeq (sDeepRev 4 1) (sSeq (sSet 1 (dTup (dCons (d2 gIx (dN 1) (dC (.int 0))) (dCons (dOfF (fLstRev (d2 gIx (dN 1) (dC (.int 1))))) dNil)))) (sSeq (sIf (dB (d2 (gEqS (!·)) (dRepr (dKw2N F_table_of (dCons (dC (.int 2)) (dCons (dN 4) dNil)))) (dRepr (dOfF (fLc (iAny (dCall 1 F_law_bk_texts (dCons (dC (.int 2)) dNil))) (tgN 8) dYes (dCall 2 F_law_bk_run (dCons (dN 1) (dCons (dN 8) dNil))) [8]))))) (sRet (dC (.bool false))) sNext) (sSeq (sSet 7 (dCallM 3 F_law_bk_chart (dCons (dN 0) (dCons (dC (.int 12)) (dCons (dC (.int 12)) dNil))))) (sSeq (sSetV 3 (fLc (iAny (dCall 1 F_law_bk_texts (dCons (dC (.int 4)) dNil))) (tgN 8) dYes (dCall 1 F_law_bk_road (dCons (dCall 2 F_law_bk_sent (dCons (dN 7) (dCons (dCall 1 F_law_bk_number (dCons (dN 8) dNil)) dNil))) dNil)) [8])) (sRet (d2 (gEqS id) (dRepr (dCallN 2 F_table_of (dCons (dCall 1 F_machine_of (dCons (dN 7) dNil)) (dCons (dC (.int 4)) dNil)))) (dRepr (dN 3))))))))))))))))))))
abbrev PL_law_right (F F_law_bk_shape F_law_coin F_law_bk_texts F_law_bk_run F_table_of F_law_bk_chart F_law_bk_road F_law_bk_sent F_law_bk_number F_machine_of : DF) : Prop := ∀ (ds : List PyData) (q : PyData → PyData → Prop) (a : Addr), ds.length = 1 → F ds q → (t_law_right F_law_bk_shape F_law_coin F_law_bk_texts F_law_bk_run F_table_of F_law_bk_chart F_law_bk_road F_law_bk_sent F_law_bk_number F_machine_of) (endsD true a q) (startD true a 9 ds)
theorem ok_law_right {P : Program} {w : World} {K : PySem.W.Frag} {mg : Str → Option Value} {base : Heap} {f : Addr} {fd : FuncData} {F F_law_bk_shape F_law_coin F_law_bk_texts F_law_bk_run F_table_of F_law_bk_chart F_law_bk_road F_law_bk_sent F_law_bk_number F_machine_of : DF} (Fn : FunD K "_law_right" "_law_right" (defArgs s_law_right) (defBody s_law_right) (defScope s_law_right) [] [] f fd) (k_law_bk_shape : Know P w K mg base "_law_bk_shape" 3 ["purse", "many", "top"] true 3 F_law_bk_shape) (k_law_coin : Know P w K mg base "_law_coin" 1 ["purse", "many"] true 2 F_law_coin) (k_law_bk_texts : Know P w K mg base "_law_bk_texts" 1 ["top"] false 1 F_law_bk_texts) (k_law_bk_run : Know P w K mg base "_law_bk_run" 2 ["shape", "way"] false 2 F_law_bk_run) (k_law_bk_copied : KnowC P w K mg base "_law_bk_copied" 4) (k_table_of : KnowK P w K mg base "table_of" 5 "machine" "length" F_table_of) (k_law_bk_chart : Know P w K mg base "_law_bk_chart" 3 ["purse", "top", "most_size"] true 3 F_law_bk_chart) (k_law_bk_road : Know P w K mg base "_law_bk_road" 1 ["pair"] false 1 F_law_bk_road) (k_law_bk_sent : Know P w K mg base "_law_bk_sent" 2 ["chart", "pair"] false 2 F_law_bk_sent) (k_law_bk_number : Know P w K mg base "_law_bk_number" 1 ["way"] false 1 F_law_bk_number) (k_machine_of : Know P w K mg base "machine_of" 4 ["one"] false 1 F_machine_of) (b_repr : mg "repr" = none) (b_len : mg "len" = none) (b_list : mg "list" = none) (b_reversed : mg "reversed" = none)
    (pl : PL_law_right F F_law_bk_shape F_law_coin F_law_bk_texts F_law_bk_run F_table_of F_law_bk_chart F_law_bk_road F_law_bk_sent F_law_bk_number F_machine_of) : FnG P w K mg base 6 f fd ["purse"] (spD true 1 F) := by
  obtain ⟨f_law_bk_shape, fd_law_bk_shape, m_law_bk_shape, kp_law_bk_shape, bd_law_bk_shape, G_law_bk_shape⟩ := k_law_bk_shape.ex
  obtain ⟨f_law_coin, fd_law_coin, m_law_coin, kp_law_coin, bd_law_coin, G_law_coin⟩ := k_law_coin.ex
  obtain ⟨f_law_bk_texts, fd_law_bk_texts, m_law_bk_texts, kp_law_bk_texts, bd_law_bk_texts, G_law_bk_texts⟩ := k_law_bk_texts.ex
  obtain ⟨f_law_bk_run, fd_law_bk_run, m_law_bk_run, kp_law_bk_run, bd_law_bk_run, G_law_bk_run⟩ := k_law_bk_run.ex
  obtain ⟨f_law_bk_copied, fd_law_bk_copied, m_law_bk_copied, kp_law_bk_copied, bd_law_bk_copied, G_law_bk_copied⟩ := k_law_bk_copied.ex
  obtain ⟨f_table_of, fd_table_of, m_table_of, kp_table_of, bd_table_of, G_table_of, kb_table_of⟩ := k_table_of.ex
  obtain ⟨f_law_bk_chart, fd_law_bk_chart, m_law_bk_chart, kp_law_bk_chart, bd_law_bk_chart, G_law_bk_chart⟩ := k_law_bk_chart.ex
  obtain ⟨f_law_bk_road, fd_law_bk_road, m_law_bk_road, kp_law_bk_road, bd_law_bk_road, G_law_bk_road⟩ := k_law_bk_road.ex
  obtain ⟨f_law_bk_sent, fd_law_bk_sent, m_law_bk_sent, kp_law_bk_sent, bd_law_bk_sent, G_law_bk_sent⟩ := k_law_bk_sent.ex
  obtain ⟨f_law_bk_number, fd_law_bk_number, m_law_bk_number, kp_law_bk_number, bd_law_bk_number, G_law_bk_number⟩ := k_law_bk_number.ex
  obtain ⟨f_machine_of, fd_machine_of, m_machine_of, kp_machine_of, bd_machine_of, G_machine_of⟩ := k_machine_of.ex
  refine okDG Fn sc_law_right rfl (fun cdv A outer s H E gd hr => ?_) pl
  unfold t_law_right
  exact (ds_cons (ds_set sc_law_right.nd rfl (.inr rfl) (do_callM G_law_bk_shape (hr.mono (by decide)) rfl m_law_bk_shape kp_law_bk_shape bd_law_bk_shape (da_cons (do_nm (pv 0)) (da_cons (do_add do_int (do_callM G_law_coin (hr.mono (by decide)) rfl m_law_coin kp_law_coin bd_law_coin (da_cons (do_nm (pv 0)) (da_cons do_int da_nil)))) (da_cons (do_callM G_law_coin (hr.mono (by decide)) rfl m_law_coin kp_law_coin bd_law_coin (da_cons (do_nm (pv 0)) (da_cons do_int da_nil))) da_nil))))) (ds_cons (ds_set sc_law_right.nd rfl (.inl rfl) (do_callM G_law_coin (hr.mono (by decide)) rfl m_law_coin kp_law_coin bd_law_coin (da_cons (do_nm (pv 0)) (da_cons do_int da_nil)))) (ds_cons (ds_setLcV (own := [("way", 8)]) (by decide) rfl sc_law_right.nd rfl rfl rfl (di_any (do_call G_law_bk_texts (hr.mono (by decide)) rfl m_law_bk_texts kp_law_bk_texts bd_law_bk_texts (da_cons (do_nm (pv 2)) da_nil))) (blkOk_by (N := ["purse", "shape", "size_here", "due", "given", "found", "later", "chart", "way"]) (sc := defScope s_law_right) (by decide +kernel)) (fun _ _ _ _ _ => (dg_name sc_law_right.nd rfl (.inl rfl))) (fun _ _ _ _ _ => dts_nil) (fun _ _ _ _ _ => (do_call G_law_bk_run (hr.mono (by decide)) rfl m_law_bk_run kp_law_bk_run bd_law_bk_run (da_cons (do_nm (pv 1)) (da_cons (do_nm (pv 8)) da_nil))))) (ds_cons (ds_setCopy G_law_bk_copied (hr.mono (by decide)) rfl m_law_bk_copied kp_law_bk_copied bd_law_bk_copied (do_nm (pv 1)) sc_law_right.nd rfl (.inl rfl)) (ds_cons (ds_setN G_table_of (hr.mono (by decide)) rfl m_table_of kp_table_of bd_table_of (da_cons (do_nm (pv 4)) (da_cons (do_nm (pv 2)) da_nil)) sc_law_right.nd rfl (.inl rfl)) (ds_cons (ds_if (dp_neS (do_repr gd hr.units rfl b_repr (do_nm (pv 5))) (do_repr gd hr.units rfl b_repr (do_nm (pv 3)))) (ds_one (ds_ret do_bl)) ds_nil) (ds_cons (ds_append (pv 5) (do_strL [76] (by decide +kernel))) (ds_cons (ds_setIx (pv 5) do_int (do_strL [77] (by decide +kernel))) (ds_cons (ds_setN G_table_of (hr.mono (by decide)) rfl m_table_of kp_table_of bd_table_of (da_cons (do_nm (pv 4)) (da_cons do_int da_nil)) sc_law_right.nd rfl (.inl rfl)) (ds_cons (ds_if (dp_neS (do_repr gd hr.units rfl b_repr (do_nm (pv 6))) (do_repr gd hr.units rfl b_repr (do_f (dfr_lc (own := [("way", 8)]) (by decide) rfl sc_law_right.nd (di_any (do_tup (da_cons (do_strL [] (by decide +kernel)) (da_cons (do_strL [76] (by decide +kernel)) (da_cons (do_strL [82] (by decide +kernel)) da_nil))))) (blkOk_by (N := ["purse", "shape", "size_here", "due", "given", "found", "later", "chart", "way"]) (sc := defScope s_law_right) (by decide +kernel)) (fun _ _ _ _ _ => (dg_name sc_law_right.nd rfl (.inl rfl))) (fun _ _ _ _ _ => dts_nil) (fun _ _ _ _ _ => (do_call G_law_bk_run (hr.mono (by decide)) rfl m_law_bk_run kp_law_bk_run bd_law_bk_run (da_cons (do_nm (pv 1)) (da_cons (do_nm (pv 8)) da_nil)))))))) (ds_one (ds_ret do_bl)) ds_nil) (ds_cons (ds_if (dp_w (dw_or (dp_neS (do_repr gd hr.units rfl b_repr (do_callN G_table_of (hr.mono (by decide)) rfl m_table_of kp_table_of bd_table_of (da_cons (do_nm (pv 4)) (da_cons (do_nm (pv 2)) da_nil)))) (do_repr gd hr.units rfl b_repr (do_nm (pv 3)))) (dw_or (dp_ne hr.units (do_nm (pv 4)) (do_nm (pv 1))) (dw_or1 (dp_ne hr.units (do_len rfl b_len (do_nm (pv 6))) do_int))))) (ds_one (ds_ret do_bl)) ds_nil) (ds_cons (ds_deepRev (pv 4)) (ds_cons (ds_set sc_law_right.nd rfl (.inr rfl) (do_tup (da_cons (do_ix (do_nm (pv 1)) do_int (fun _ _ => rfl)) (da_cons (do_f (dfr_lstRev rfl rfl b_list rfl b_reversed (do_ix (do_nm (pv 1)) do_int (fun _ _ => rfl)))) da_nil)))) (ds_cons (ds_if (dp_neS (do_repr gd hr.units rfl b_repr (do_kw2N G_table_of (hr.mono (by decide)) rfl m_table_of kp_table_of kb_table_of (dk_cons do_int (dk_cons (do_nm (pv 4)) dk_nil)))) (do_repr gd hr.units rfl b_repr (do_f (dfr_lc (own := [("way", 8)]) (by decide) rfl sc_law_right.nd (di_any (do_call G_law_bk_texts (hr.mono (by decide)) rfl m_law_bk_texts kp_law_bk_texts bd_law_bk_texts (da_cons do_int da_nil))) (blkOk_by (N := ["purse", "shape", "size_here", "due", "given", "found", "later", "chart", "way"]) (sc := defScope s_law_right) (by decide +kernel)) (fun _ _ _ _ _ => (dg_name sc_law_right.nd rfl (.inl rfl))) (fun _ _ _ _ _ => dts_nil) (fun _ _ _ _ _ => (do_call G_law_bk_run (hr.mono (by decide)) rfl m_law_bk_run kp_law_bk_run bd_law_bk_run (da_cons (do_nm (pv 1)) (da_cons (do_nm (pv 8)) da_nil)))))))) (ds_one (ds_ret do_bl)) ds_nil) (ds_cons (ds_set sc_law_right.nd rfl (.inr rfl) (do_callM G_law_bk_chart (hr.mono (by decide)) rfl m_law_bk_chart kp_law_bk_chart bd_law_bk_chart (da_cons (do_nm (pv 0)) (da_cons do_int (da_cons do_int da_nil))))) (ds_cons (ds_setLcV (own := [("way", 8)]) (by decide) rfl sc_law_right.nd rfl rfl rfl (di_any (do_call G_law_bk_texts (hr.mono (by decide)) rfl m_law_bk_texts kp_law_bk_texts bd_law_bk_texts (da_cons do_int da_nil))) (blkOk_by (N := ["purse", "shape", "size_here", "due", "given", "found", "later", "chart", "way"]) (sc := defScope s_law_right) (by decide +kernel)) (fun _ _ _ _ _ => (dg_name sc_law_right.nd rfl (.inl rfl))) (fun _ _ _ _ _ => dts_nil) (fun _ _ _ _ _ => (do_call G_law_bk_road (hr.mono (by decide)) rfl m_law_bk_road kp_law_bk_road bd_law_bk_road (da_cons (do_call G_law_bk_sent (hr.mono (by decide)) rfl m_law_bk_sent kp_law_bk_sent bd_law_bk_sent (da_cons (do_nm (pv 7)) (da_cons (do_call G_law_bk_number (hr.mono (by decide)) rfl m_law_bk_number kp_law_bk_number bd_law_bk_number (da_cons (do_nm (pv 8)) da_nil)) da_nil))) da_nil)))) (ds_one (ds_ret (do_eqS (do_repr gd hr.units rfl b_repr (do_callN G_table_of (hr.mono (by decide)) rfl m_table_of kp_table_of bd_table_of (da_cons (do_call G_machine_of (hr.mono (by decide)) rfl m_machine_of kp_machine_of bd_machine_of (da_cons (do_nm (pv 7)) da_nil)) (da_cons do_int da_nil)))) (do_repr gd hr.units rfl b_repr (do_nm (pv 3))))))))))))))))))))))
abbrev s_law_purse : Stmt := topS 35
abbrev s_law : Stmt := topS 51
abbrev lawC : Int := 6
theorem sc_law_purse : FnScope ["script", "place", "cell"] ["script", "place"] (defScope s_law_purse) := ⟨rfl, rfl, rfl, by decide +kernel, rfl, by decide +kernel, by decide +kernel⟩
theorem sc_law : FnScope ["script", "spot"] ["script"] (defScope s_law) := ⟨rfl, rfl, rfl, by decide +kernel, rfl, by decide +kernel, by decide +kernel⟩
def spPurse (K : PySem.W.Frag) : Sp := fun vs H Q _ => ∃ (a : Addr) (ns : List Int) (i : Nat), vs = [.ref a, .int i] ∧ SqL K H a (ns.map V.int) ∧ i < 1000 ∧
  ∀ (g s : Int) (p : Addr), 0 ≤ g → 0 ≤ s → s < 1000000000000000000000007 → H p = none → Q (.ref p) (upd H p (.lst [.int g, .int s, .int 0]))
section
variable {P : Program} {w : World} {K : PySem.W.Frag} {mg : Str → Option Value} {base : Heap} {f : Addr} {fd : FuncData}
theorem ok_law_purse (Fn : FunD K "_law_purse" "_law_purse" (defArgs s_law_purse) (defBody s_law_purse) (defScope s_law_purse) [] [] f fd) (b_len : mg "len" = none) (b_max : mg "max" = none) (b_abs : mg "abs" = none) (b_int : mg "int" = none) :
    FnOk P w K mg base CX0 1 f fd ["script", "place"] (spPurse K) := by
  refine Fn.ok sc_law_purse (fun vs H Q E h => ?_) (fun cdv A outer s H vs Q E hr h => ⟨_, PSs.nox (pss_cons (ps_set (i := 2) sc_law_purse.nd rfl (.inl rfl) (pe_ifExp (pt_cmpR op_lt (pv 1) (pe_callB call_len rfl b_len boot_len (pa_cons (pv 0) pa_nil)) (nomark _)) (pe_ix ix_seq (pv 0) (pv 1) (fun _ _ => rfl)) pe_int))
    (pss_one (ps_ret (pe_lst (pa_cons (pe_callB (call_max2 rfl) rfl b_max (by decide +kernel) (pa_cons pe_int (pa_cons (pe_op op_sub (pe_callB call_abs rfl b_abs (by decide +kernel) (pa_cons (pv 2) pa_nil)) (pe_op op_powW pe_int pe_int)) pa_nil)))
      (pa_cons (pe_op op_mod (pe_callTy call_int1 rfl b_int boot_int (pa_cons (pe_op op_add (pe_op op_add (pe_op op_mulA (pv 2) pe_int) (pe_op op_mulA (pv 1) pe_int)) pe_int) pa_nil)) (pe_op op_add (pe_op op_powW pe_int pe_int) pe_int)) (pa_cons pe_int pa_nil))))))), ?_⟩)
  · obtain ⟨a, ns, i, rfl, _⟩ := h
    rfl
  · obtain ⟨a, ns, i, rfl, hS, hi, hQ⟩ := h
    generalize hB : tRet _ = B
    have rest : ∀ c : Int, B { nx := fun _ H' => Q V.non H', rt := Q } [some (.ref a), some (.int i), some (.int c)] H := by
      intro c
      subst hB
      refine ⟨.int c, rfl, c, rfl, 10, 18, rfl, rfl, ⟨by decide, by decide +kernel⟩, _, _, rfl, rfl, 0, _, rfl, .int c, rfl, c, 30011, rfl, rfl, .inr (.inl (by decide)), .int i, rfl, i, 7368787, rfl, rfl, .inr (.inl (by decide)), _, _, rfl, rfl, _, 104729, rfl, rfl, .inl ⟨_, rfl, 10, 24, rfl, rfl, ⟨by decide, by decide +kernel⟩, _, 7, rfl, rfl, _, _, rfl, rfl, (show (0 : Int) < 10 ^ (24 : Int).toNat + 7 from by decide), by show 3 ≤ sizeLine; decide, fun p hp => ?_⟩⟩
      refine hQ _ _ p ?_ (Int.emod_nonneg _ (by decide)) ?_ hp
      · split <;> omega
      · exact Int.emod_lt_of_pos _ (by decide)
    refine ⟨.int i, rfl, .ref a, rfl, .ref a, ns.length, rfl, .inl ⟨_, hS, by rw [List.length_map]⟩, (i : Int), (ns.length : Int), rfl, rfl, _, rfl, ?_⟩
    dsimp only
    by_cases lt : i < ns.length
    · rw [if_pos (decide_eq_true (by omega))]
      exact ⟨.ref a, rfl, .int i, rfl, .inl ⟨a, _, (i : Nat), .int ns[i], rfl, rfl, hS, atI_nat (by simp [lt]), rest _⟩⟩
    · rw [if_neg (by simpa using lt)]
      exact rest 0
def spLaw (K : PySem.W.Frag) : Sp := fun vs H Q _ => ∃ (a : Addr) (ns : List Int), vs = [.ref a] ∧ SqL K H a (ns.map V.int) ∧ ns.length ≤ 63 ∧ ∀ H', Q (.bl true) H'
theorem ok_law {k : Nat} {F : DF} (Fn : FunD K "law" "law" (defArgs s_law) (defBody s_law) (defScope s_law) [] [] f fd) (b_len : mg "len" = none) (b_max : mg "max" = none) (b_min : mg "min" = none) (b_range : mg "range" = none)
    {fP : Addr} {fdP : FuncData} (mP : mg "_law_purse" = some (.ref fP)) (kP : PySem.W.keepIn K (.ref fP) = true) (bP : L2.Binds K fdP ["script", "place"] []) (GP : FnOk P w K mg base CX0 1 fP fdP ["script", "place"] (spPurse K))
    (right : KnowG P w K mg base "_law_right" (k + 1) ["purse"] true 1 F) (hF : ∀ (g s : Int) (q : PyData → PyData → Prop), 0 ≤ g → 0 ≤ s → s < 1000000000000000000000007 → (∀ e, q (.bool true) e) → F [.list [.int g, .int s, .int 0]] q) :
    FnG P w K mg base (k + 2) f fd ["script"] (spLaw K) := by
  obtain ⟨fR, fdR, mR, kR, bR, GR⟩ := right.ex
  refine fnG_of Fn sc_law (fun vs H Q E h => ?_) (fun cdv A outer s H vs Q E gd hr h => ⟨_, PSs.nox (pss_cons (ps_for .never rfl (pi_range1 rfl b_range (pa_cons (pe_callB (call_max2 rfl) rfl b_max (by decide +kernel) (pa_cons pe_int (pa_cons (pe_callB (call_min2 rfl) rfl b_min (by decide +kernel) (pa_cons pe_int (pa_cons (pe_callB call_len rfl b_len boot_len (pa_cons (pv 0) pa_nil)) pa_nil))) pa_nil))) pa_nil))
    (pg_name (i := 1) sc_law.nd rfl (.inl rfl)) (pss_one (ps_if (pt_not (pt_val (pe_callG GR gd hr rfl mR kR bR (pa_cons (pe_call GP (hr.mono (by omega)) rfl mP kP bP .nil pass0 (pa_cons (pv 0) (pa_cons (pv 1) pa_nil))) pa_nil) (by decide) rfl rfl))) (pss_one (ps_ret pe_bl)) pss_nil))) (pss_one (ps_ret pe_bl))), ?_⟩)
  · obtain ⟨a, ns, rfl, _⟩ := h
    rfl
  · obtain ⟨a, ns, rfl, hS, hl, hQ⟩ := h
    refine ⟨.ref a, rfl, .ref a, ns.length, rfl, .inl ⟨_, hS, by rw [List.length_map]⟩, _, _, rfl, _, _, rfl, _, rfl, ?_, ?_, for_range (fun _ σ H' => σ[0]? = some (some (.ref a)) ∧ σ.length = 2 ∧ SqL K H' a (ns.map V.int)) ⟨rfl, rfl, hS⟩ (fun i σ H' hi z => ?_) fun σ H' _ => hQ _⟩
    · show -(2 ^ 62 : Int) ≤ _
      split <;> split <;> omega
    · show _ < (2 ^ 62 : Int)
      split <;> split <;> omega
    · obtain ⟨h0, h2, hS'⟩ := z
      have hi' : i < 63 := by
        revert hi
        split <;> split <;> omega
      obtain ⟨x0, x1, rfl⟩ : ∃ x0 x1, σ = [x0, x1] := by
        match σ, h2 with
        | [x0, x1], _ => exact ⟨x0, x1, rfl⟩
      obtain rfl : x0 = some (.ref a) := Option.some.inj h0
      refine ⟨.ref a, rfl, .int (0 + (i : Int)), rfl, a, ns, i, by simp, hS', by omega, fun g s p hg hs hs2 hp => ?_⟩
      have keep : ∀ H2 : Hp, (∀ b o, upd H' p (.lst [.int g, .int s, .int 0]) b = some o → b ≠ p → H2 b = some o) → SqL K H2 a (ns.map V.int) := fun H2 h => by
        rcases hS' with (z | ⟨o, z⟩) | z
        · have ne1 : a ≠ p := fun q => by rw [q, hp] at z; cases z
          exact .inl (.inl (h a _ (by rw [upd_ne ne1]; exact z) ne1))
        · have ne1 : a ≠ p := fun q => by rw [q, hp] at z; cases z
          exact .inl (.inr ⟨o, h a _ (by rw [upd_ne ne1]; exact z) ne1⟩)
        · exact .inr z
      refine ⟨rfl, (· = p), [.list [.int g, .int s, .int 0]], fun d _ => d = .bool true, fun b hb => (by cases (show b = p from hb); exact ⟨_, upd_same, rfl⟩), hF g s _ hg hs hs2 fun _ => rfl, ?_⟩
      rw [if_pos rfl]
      refine ⟨p, [], .list [.int g, .int s, .int 0], [], rfl, rfl, rfl, ⟨_, upd_same, .lst (.cons (.int _) (.cons (.int _) (.cons (.int _) .nil)))⟩, .nil, fun d e v H2 hq hk ht hv => ?_⟩
      subst hq
      refine ⟨true, hv.bl', ?_⟩
      exact ⟨rfl, rfl, keep H2 hk⟩
end

end DL
namespace DL
open PySem PySem.Spec PyProof.Rows L2
theorem S_app (a b : List Bool) : S (L (mk (enc a)) ++ L (mk (enc b))) = Wd (a ++ b) := by
  rw [L_mk, L_mk, ← enc_app]
theorem LWd (w : List Bool) : ((L (mk (enc w))).length : Int) = (w.length : Nat) := by rw [L_mk, enc_len]
end DL
namespace DL
--plain
/-! ### roads, numbers, maps: plain -/
structure Mp where
  a : Nat
  b : Nat
  c : Nat
  d : Nat
deriving DecidableEq
def stepT (t : Bool) (v : Nat × Nat) : Nat × Nat := if t then (v.1 + v.2, v.2) else (v.1, v.1 + v.2)
def stepW (w : List Bool) (v : Nat × Nat) : Nat × Nat := w.foldr stepT v
abbrev numB (w : List Bool) : Nat × Nat := stepW w (1, 1)
def mulT (m : Mp) (t : Bool) : Mp := if t then ⟨m.a, m.a + m.b, m.c, m.c + m.d⟩ else ⟨m.a + m.b, m.b, m.c + m.d, m.d⟩
def mulW (m : Mp) (w : List Bool) : Mp := w.foldl mulT m
def preT (t : Bool) (m : Mp) : Mp := if t then ⟨m.a + m.c, m.b + m.d, m.c, m.d⟩ else ⟨m.a, m.b, m.c + m.a, m.d + m.b⟩
def preW (w : List Bool) (m : Mp) : Mp := w.foldr preT m
def ap (m : Mp) (v : Nat × Nat) : Nat × Nat := (m.a * v.1 + m.b * v.2, m.c * v.1 + m.d * v.2)
def det (m : Mp) : Int := (m.a : Int) * m.d - (m.b : Int) * m.c
theorem mul_pre (s t : Bool) (m : Mp) : mulT (preT s m) t = preT s (mulT m t) := by
  cases s <;> cases t <;> simp [mulT, preT] <;> omega
theorem mulW_pre (s : Bool) : ∀ (w : List Bool) (m : Mp), mulW (preT s m) w = preT s (mulW m w)
  | [], _ => rfl
  | t :: w, m => by
    show mulW (mulT (preT s m) t) w = preT s (mulW (mulT m t) w)
    rw [mul_pre, mulW_pre s w]
theorem mulW_preW : ∀ (u w : List Bool) (m : Mp), mulW (preW u m) w = preW u (mulW m w)
  | [], _, _ => rfl
  | s :: u, w, m => by
    show mulW (preT s (preW u m)) w = preT s (preW u (mulW m w))
    rw [mulW_pre, mulW_preW u]
theorem preW_app (u w : List Bool) (m : Mp) : preW (u ++ w) m = preW u (preW w m) := List.foldr_append ..
theorem stepW_app (u w : List Bool) (v : Nat × Nat) : stepW (u ++ w) v = stepW u (stepW w v) := List.foldr_append ..
theorem ap_mul (m : Mp) (t : Bool) (v : Nat × Nat) : ap (mulT m t) v = ap m (stepT t v) := by
  cases t <;> simp [ap, mulT, stepT, Nat.add_mul, Nat.mul_add] <;> omega
theorem ap_mulW : ∀ (w : List Bool) (m : Mp) (v : Nat × Nat), ap (mulW m w) v = ap m (stepW w v)
  | [], _, _ => rfl
  | t :: w, m, v => by
    show ap (mulW (mulT m t) w) v = ap m (stepT t (stepW w v))
    rw [ap_mulW w, ap_mul]
theorem ap_pre (m : Mp) (t : Bool) (v : Nat × Nat) : ap (preT t m) v = stepT t (ap m v) := by
  cases t <;> simp [ap, preT, stepT, Nat.add_mul] <;> omega
theorem ap_preW : ∀ (w : List Bool) (m : Mp) (v : Nat × Nat), ap (preW w m) v = stepW w (ap m v)
  | [], _, _ => rfl
  | t :: w, m, v => by
    show ap (preT t (preW w m)) v = stepT t (stepW w (ap m v))
    rw [ap_pre, ap_preW w]
theorem det_mul (m : Mp) (t : Bool) : det (mulT m t) = det m := by
  cases t <;> simp [det, mulT, Int.add_mul, Int.mul_add] <;> grind
theorem det_pre (m : Mp) (t : Bool) : det (preT t m) = det m := by
  cases t <;> simp [det, preT, Int.add_mul, Int.mul_add] <;> grind
theorem det_preW (m : Mp) : ∀ (w : List Bool), det (preW w m) = det m
  | [] => rfl
  | t :: w => by
    show det (preT t (preW w m)) = _
    rw [det_pre, det_preW m w]
def scale (g : Nat) (v : Nat × Nat) : Nat × Nat := (g * v.1, g * v.2)
theorem step_scale (g : Nat) (t : Bool) (v : Nat × Nat) : stepT t (scale g v) = scale g (stepT t v) := by
  cases t <;> simp [stepT, scale, Nat.mul_add]
theorem stepW_scale (g : Nat) : ∀ (w : List Bool) (v : Nat × Nat), stepW w (scale g v) = scale g (stepW w v)
  | [], _ => rfl
  | t :: w, v => by
    show stepT t (stepW w (scale g v)) = _
    rw [stepW_scale g w, step_scale]
    rfl
theorem num_pos : ∀ (w : List Bool), 0 < (numB w).1 ∧ 0 < (numB w).2
  | [] => ⟨Nat.one_pos, Nat.one_pos⟩
  | t :: w => by
    have h := num_pos w
    show 0 < (stepT t (numB w)).1 ∧ 0 < (stepT t (numB w)).2
    unfold stepT
    cases t <;> simp <;> omega
theorem num_gcd : ∀ (w : List Bool), Nat.gcd (numB w).1 (numB w).2 = 1
  | [] => rfl
  | t :: w => by
    have h := num_gcd w
    show Nat.gcd (stepT t (numB w)).1 (stepT t (numB w)).2 = 1
    unfold stepT
    cases t <;> simp [h]
theorem num_len : ∀ (w : List Bool), w.length + 2 ≤ (numB w).1 + (numB w).2
  | [] => Nat.le_refl _
  | t :: w => by
    have h := num_len w
    have p := num_pos w
    show w.length + 1 + 2 ≤ (stepT t (numB w)).1 + (stepT t (numB w)).2
    unfold stepT
    cases t <;> simp <;> omega
theorem num_of : ∀ (n a b : Nat), a + b ≤ n → 0 < a → 0 < b → Nat.gcd a b = 1 → ∃ w, numB w = (a, b)
  | 0, a, b, h, ha, hb, _ => by omega
  | n + 1, a, b, h, ha, hb, hg => by
    rcases Nat.lt_trichotomy a b with l | l | l
    · obtain ⟨w, hw⟩ := num_of n a (b - a) (by omega) ha (by omega) (by rw [Nat.gcd_sub_self_right (by omega)]; exact hg)
      refine ⟨false :: w, ?_⟩
      show stepT false (numB w) = _
      rw [hw]
      simp [stepT]; omega
    · subst l
      rw [Nat.gcd_self] at hg
      subst hg
      exact ⟨[], rfl⟩
    · obtain ⟨w, hw⟩ := num_of n (a - b) b (by omega) (by omega) hb (by rw [Nat.gcd_sub_self_left (by omega)]; exact hg)
      refine ⟨true :: w, ?_⟩
      show stepT true (numB w) = _
      rw [hw]
      simp [stepT]; omega
theorem num_inj : ∀ (u w : List Bool), numB u = numB w → u = w
  | [], [], _ => rfl
  | [], t :: w, h => by
    have p := num_pos w
    have h : (1, 1) = stepT t (numB w) := h
    unfold stepT at h
    cases t <;> simp at h <;> omega
  | t :: w, [], h => by
    have p := num_pos w
    have h : stepT t (numB w) = (1, 1) := h
    unfold stepT at h
    cases t <;> simp at h <;> omega
  | t :: u, s :: w, h => by
    have p := num_pos u
    have p2 := num_pos w
    have h : stepT t (numB u) = stepT s (numB w) := h
    unfold stepT at h
    cases t <;> cases s <;> simp at h
    · rw [num_inj u w (Prod.ext h.1 (by omega))]
    · omega
    · omega
    · rw [num_inj u w (Prod.ext (by omega) h.2)]
/-- down by taking away, turn by turn -/
def roadN : Nat → Nat → Nat → List Bool
  | 0, _, _ => []
  | n + 1, a, b => if a = b then [] else if b < a then true :: roadN n (a - b) b else false :: roadN n a (b - a)
theorem roadN_num : ∀ (n : Nat) (w : List Bool), w.length < n → roadN n (numB w).1 (numB w).2 = w
  | 0, _, h => by omega
  | n + 1, [], _ => rfl
  | n + 1, t :: w, h => by
    have p := num_pos w
    have ih := roadN_num n w (by simpa using h)
    show roadN (n + 1) (stepT t (numB w)).1 (stepT t (numB w)).2 = t :: w
    unfold stepT roadN
    cases t <;> simp
    · rw [if_neg (by omega), if_neg (by omega), ih]
    · rw [if_neg (by omega), if_pos (by omega), ih]
/-- many steps at once -/
theorem num_run : ∀ (k : Nat) (u : List Bool) (a b : Nat), numB u = (a, b) → k * b < a → ∃ u', u = List.replicate k true ++ u' ∧ numB u' = (a - k * b, b)
  | 0, u, a, b, h, _ => ⟨u, rfl, by simpa using h⟩
  | k + 1, u, a, b, h, l => by
    have pu := num_pos u
    rw [h] at pu
    have e : (k + 1) * b = k * b + b := by rw [Nat.succ_mul]
    cases u with
    | nil =>
      have h : ((1 : Nat), (1 : Nat)) = (a, b) := h
      cases h
      omega
    | cons t u =>
      have p := num_pos u
      have h : stepT t (numB u) = (a, b) := h
      cases t with
      | false =>
        simp [stepT] at h
        have : b ≤ k * b + b := Nat.le_add_left ..
        omega
      | true =>
        simp [stepT] at h
        obtain ⟨u', e1, e2⟩ := num_run k u (a - b) b (Prod.ext (by simp; omega) h.2) (by omega)
        refine ⟨u', by rw [e1]; rfl, ?_⟩
        rw [e2]
        congr 1
        omega
theorem num_runL : ∀ (k : Nat) (u : List Bool) (a b : Nat), numB u = (a, b) → k * a < b → ∃ u', u = List.replicate k false ++ u' ∧ numB u' = (a, b - k * a)
  | 0, u, a, b, h, _ => ⟨u, rfl, by simpa using h⟩
  | k + 1, u, a, b, h, l => by
    have pu := num_pos u
    rw [h] at pu
    have e : (k + 1) * a = k * a + a := by rw [Nat.succ_mul]
    cases u with
    | nil =>
      have h : ((1 : Nat), (1 : Nat)) = (a, b) := h
      cases h
      omega
    | cons t u =>
      have p := num_pos u
      have h : stepT t (numB u) = (a, b) := h
      cases t with
      | true =>
        simp [stepT] at h
        have : a ≤ k * a + a := Nat.le_add_left ..
        omega
      | false =>
        simp [stepT] at h
        obtain ⟨u', e1, e2⟩ := num_runL k u a (b - a) (Prod.ext h.1 (by simp; omega)) (by omega)
        refine ⟨u', by rw [e1]; rfl, ?_⟩
        rw [e2]
        congr 1
        omega
/-! ### what is written of a map, and what is left -/
def lo : Nat → Mp → List Bool × Mp
  | 0, m => ([], m)
  | n + 1, m => if m.c ≤ m.a ∧ m.d ≤ m.b then (true :: (lo n ⟨m.a - m.c, m.b - m.d, m.c, m.d⟩).1, (lo n ⟨m.a - m.c, m.b - m.d, m.c, m.d⟩).2)
    else if m.a ≤ m.c ∧ m.b ≤ m.d then (false :: (lo n ⟨m.a, m.b, m.c - m.a, m.d - m.b⟩).1, (lo n ⟨m.a, m.b, m.c - m.a, m.d - m.b⟩).2) else ([], m)
def msum (m : Mp) : Nat := m.a + m.b + m.c + m.d
def red (m : Mp) : Prop := ¬ (m.c ≤ m.a ∧ m.d ≤ m.b) ∧ ¬ (m.a ≤ m.c ∧ m.b ≤ m.d)
theorem det_row {m : Mp} (h : det m ≠ 0) : 0 < m.c + m.d ∧ 0 < m.a + m.b := by
  constructor
  · rcases Nat.eq_zero_or_pos (m.c + m.d) with e | e
    · have h1 : m.c = 0 := by omega
      have h2 : m.d = 0 := by omega
      simp [det, h1, h2] at h
    · exact e
  · rcases Nat.eq_zero_or_pos (m.a + m.b) with e | e
    · have h1 : m.a = 0 := by omega
      have h2 : m.b = 0 := by omega
      simp [det, h1, h2] at h
    · exact e
theorem lo_pre : ∀ (n : Nat) (m : Mp), preW (lo n m).1 (lo n m).2 = m
  | 0, _ => rfl
  | n + 1, m => by
    unfold lo
    split
    · rename_i h
      show preT true (preW (lo n _).1 (lo n _).2) = m
      rw [lo_pre n]
      cases m
      simp [preT] at *
      omega
    · split
      · rename_i h
        show preT false (preW (lo n _).1 (lo n _).2) = m
        rw [lo_pre n]
        cases m
        simp [preT] at *
        omega
      · rfl
theorem lo_red : ∀ (n : Nat) (m : Mp), det m ≠ 0 → msum m < n → red (lo n m).2
  | 0, _, _, h => by omega
  | n + 1, m, hd, h => by
    have p := det_row hd
    unfold lo
    split
    · rename_i h1
      refine lo_red n _ ?_ ?_
      · have e : det (preT true ⟨m.a - m.c, m.b - m.d, m.c, m.d⟩) = det m := by
          congr 1
          cases m
          simp [preT] at *
          omega
        rw [det_pre] at e
        rw [e]
        exact hd
      · simp [msum] at *
        omega
    · split
      · rename_i h1
        refine lo_red n _ ?_ ?_
        · have e : det (preT false ⟨m.a, m.b, m.c - m.a, m.d - m.b⟩) = det m := by
            congr 1
            cases m
            simp [preT] at *
            omega
          rw [det_pre] at e
          rw [e]
          exact hd
        · simp [msum] at *
          omega
      · rename_i h1 h2
        exact ⟨h1, h2⟩
theorem lo_more : ∀ (n k : Nat) (m : Mp), det m ≠ 0 → msum m < n → lo (n + k) m = lo n m
  | 0, _, _, _, h => by omega
  | n + 1, k, m, hd, h => by
    have p := det_row hd
    rw [Nat.add_right_comm]
    unfold lo
    split
    · rename_i h1
      rw [lo_more n k _ ?_ ?_]
      · have e : det (preT true ⟨m.a - m.c, m.b - m.d, m.c, m.d⟩) = det m := by
          congr 1
          cases m
          simp [preT] at *
          omega
        rw [det_pre] at e
        rw [e]
        exact hd
      · simp [msum] at *
        omega
    · split
      · rename_i h1
        rw [lo_more n k _ ?_ ?_]
        · have e : det (preT false ⟨m.a, m.b, m.c - m.a, m.d - m.b⟩) = det m := by
            congr 1
            cases m
            simp [preT] at *
            omega
          rw [det_pre] at e
          rw [e]
          exact hd
        · simp [msum] at *
          omega
      · rfl
theorem lo_len : ∀ (n : Nat) (m : Mp), (lo n m).1.length ≤ n
  | 0, _ => Nat.le_refl _
  | n + 1, m => by
    unfold lo
    split
    · have := lo_len n ⟨m.a - m.c, m.b - m.d, m.c, m.d⟩
      simpa using this
    · split
      · have := lo_len n ⟨m.a, m.b, m.c - m.a, m.d - m.b⟩
        simpa using this
      · exact Nat.zero_le _
def leftOver (m : Mp) : List Bool × Mp := lo (msum m + 1) m
theorem left_pre (m : Mp) : preW (leftOver m).1 (leftOver m).2 = m := lo_pre _ _
theorem left_red {m : Mp} (h : det m ≠ 0) : red (leftOver m).2 := lo_red _ _ h (Nat.lt_succ_self _)
theorem left_det (m : Mp) : det (leftOver m).2 = det m := by
  have := det_preW (leftOver m).2 (leftOver m).1
  rw [left_pre] at this
  exact this.symm
theorem left_eq {m : Mp} (h : det m ≠ 0) {n : Nat} (hn : msum m < n) : lo n m = leftOver m := by
  obtain ⟨k, rfl⟩ := Nat.exists_eq_add_of_le (show msum m + 1 ≤ n from hn)
  exact lo_more _ _ _ h (Nat.lt_succ_self _)
def readT (m : Mp) (t : Bool) : List Bool × Mp := leftOver (mulT m t)
theorem read_det (m : Mp) (t : Bool) : det (readT m t).2 = det m := (left_det _).trans (det_mul m t)
theorem read_red {m : Mp} (h : det m ≠ 0) (t : Bool) : red (readT m t).2 := left_red (by rw [det_mul]; exact h)
theorem read_pre (m : Mp) (t : Bool) : preW (readT m t).1 (readT m t).2 = mulT m t := left_pre _
/-- standing maps are small -/
theorem red_small {m : Mp} (hr : red m) (h : det m ≠ 0) : m.a ≤ (det m).natAbs ∧ m.b ≤ (det m).natAbs ∧ m.c ≤ (det m).natAbs ∧ m.d ≤ (det m).natAbs := by
  obtain ⟨a, b, c, d⟩ := m
  obtain ⟨h1, h2⟩ := hr
  simp only at h1 h2 ⊢
  have cases2 : (c < a ∧ b < d) ∨ (a < c ∧ d < b) := by omega
  rcases cases2 with ⟨x, y⟩ | ⟨x, y⟩
  · obtain ⟨k, rfl⟩ := Nat.exists_eq_add_of_lt x
    obtain ⟨l, rfl⟩ := Nat.exists_eq_add_of_lt y
    have e : det ⟨c + k + 1, b, c, b + l + 1⟩ = ((c * l + c + k * b + k * l + k + b + l + 1 : Nat) : Int) := by
      simp [det]
      grind
    rw [e, Int.natAbs_natCast]
    refine ⟨?_, ?_, ?_, ?_⟩ <;> (have := Nat.zero_le (c * l); have := Nat.zero_le (k * b); have := Nat.zero_le (k * l); omega)
  · obtain ⟨k, rfl⟩ := Nat.exists_eq_add_of_lt x
    obtain ⟨l, rfl⟩ := Nat.exists_eq_add_of_lt y
    have e : det ⟨a, d + l + 1, a + k + 1, d⟩ = -((d * k + d + l * a + l * k + l + a + k + 1 : Nat) : Int) := by
      simp [det]
      grind
    rw [e, Int.natAbs_neg, Int.natAbs_natCast]
    refine ⟨?_, ?_, ?_, ?_⟩ <;> (have := Nat.zero_le (d * k); have := Nat.zero_le (l * a); have := Nat.zero_le (l * k); omega)
/-- a list of unlike small numbers is short -/
theorem nodup_short : ∀ (N : Nat) (l : List Nat), l.Nodup → (∀ x ∈ l, x < N) → l.length ≤ N
  | 0, l, _, h => by
    cases l with
    | nil => exact Nat.le_refl _
    | cons x l => exact absurd (h x (List.mem_cons_self ..)) (Nat.not_lt_zero _)
  | N + 1, l, hn, h => by
    have ih := nodup_short N (l.erase N) (hn.erase _) fun x hx => by
      have h1 := (List.Nodup.mem_erase_iff hn).mp hx
      have := h x h1.2
      omega
    have := List.length_erase (a := N) (l := l)
    split at this <;> omega
def code (n : Nat) (m : Mp) : Nat := ((m.a * (n + 1) + m.b) * (n + 1) + m.c) * (n + 1) + m.d
theorem digit {k x y a b : Nat} (ha : a < k) (hb : b < k) (h : x * k + a = y * k + b) : x = y ∧ a = b := by
  have h1 : (x * k + a) % k = a := by rw [Nat.mul_add_mod_self_right, Nat.mod_eq_of_lt ha]
  have h2 : (y * k + b) % k = b := by rw [Nat.mul_add_mod_self_right, Nat.mod_eq_of_lt hb]
  have e : a = b := by rw [← h1, ← h2, h]
  subst e
  refine ⟨Nat.eq_of_mul_eq_mul_right (show 0 < k by omega) (by omega), rfl⟩
theorem code_inj {n : Nat} {m m' : Mp} (h : m.a ≤ n ∧ m.b ≤ n ∧ m.c ≤ n ∧ m.d ≤ n) (h' : m'.a ≤ n ∧ m'.b ≤ n ∧ m'.c ≤ n ∧ m'.d ≤ n) (e : code n m = code n m') : m = m' := by
  unfold code at e
  obtain ⟨e, e4⟩ := digit (by omega) (by omega) e
  obtain ⟨e, e3⟩ := digit (by omega) (by omega) e
  obtain ⟨e1, e2⟩ := digit (by omega) (by omega) e
  cases m
  cases m'
  simp at *
  exact ⟨e1, e2, e3, e4⟩
theorem code_lt {n : Nat} {m : Mp} (h : m.a ≤ n ∧ m.b ≤ n ∧ m.c ≤ n ∧ m.d ≤ n) : code n m < (n + 1) * (n + 1) * (n + 1) * (n + 1) := by
  have step : ∀ x y z : Nat, x < y → z ≤ n → x * (n + 1) + z < y * (n + 1) := fun x y z hx hz => by
    have : (x + 1) * (n + 1) ≤ y * (n + 1) := Nat.mul_le_mul_right _ hx
    rw [Nat.succ_mul] at this
    omega
  exact step _ _ _ (step _ _ _ (step _ _ _ (by omega) h.2.1) h.2.2.1) h.2.2.2
theorem maps_short (n : Nat) (l : List Mp) (hn : l.Nodup) (h : ∀ m ∈ l, m.a ≤ n ∧ m.b ≤ n ∧ m.c ≤ n ∧ m.d ≤ n) : l.length ≤ (n + 1) * (n + 1) * (n + 1) * (n + 1) := by
  have := nodup_short ((n + 1) * (n + 1) * (n + 1) * (n + 1)) (l.map (code n)) (by
    refine List.pairwise_map.mpr (List.Pairwise.imp_of_mem (fun {x y} hx hy ne e => ne (code_inj (h x hx) (h y hy) e)) hn)) fun x hx => by
      obtain ⟨m, hm, rfl⟩ := List.mem_map.mp hx
      exact code_lt (h m hm)
  rwa [List.length_map] at this
end DL
namespace DL
--plain
/-! ### the states of a map's machine -/
def addM (f : List Mp) (m : Mp) : List Mp := if m ∈ f then f else f ++ [m]
abbrev Mv := List Bool × Nat
/-- both moves of a standing map -/
def goneStep (f : List Mp) (m : Mp) : List Mp × (Mv × Mv) :=
  let f1 := addM f (readT m false).2
  let f2 := addM f1 (readT m true).2
  (f2, ((readT m false).1, f1.idxOf (readT m false).2), ((readT m true).1, f2.idxOf (readT m true).2))
def goneGo : Nat → List Mp → List (Mv × Mv) → List Mp × List (Mv × Mv)
  | 0, f, ms => (f, ms)
  | n + 1, f, ms => match f[ms.length]? with
    | none => (f, ms)
    | some m => goneGo n (goneStep f m).1 (ms ++ [(goneStep f m).2])
def goneOk (D : Int) (f : List Mp) : Prop := f.Nodup ∧ ∀ m ∈ f, red m ∧ det m = D
theorem addM_ok {D : Int} {f : List Mp} {m : Mp} (h : goneOk D f) (hr : red m) (hd : det m = D) : goneOk D (addM f m) := by
  unfold addM
  split
  · exact h
  · rename_i n
    refine ⟨List.nodup_append.mpr ⟨h.1, by simp, fun a ha b hb => by simp at hb; subst hb; exact fun e => n (e ▸ ha)⟩, fun x hx => ?_⟩
    simp at hx
    rcases hx with hx | rfl
    · exact h.2 x hx
    · exact ⟨hr, hd⟩
theorem addM_mem (f : List Mp) (m : Mp) : m ∈ addM f m := by
  unfold addM
  split
  · assumption
  · simp
theorem addM_pre (f : List Mp) (m : Mp) : f <+: addM f m := by
  unfold addM
  split
  · exact List.prefix_refl _
  · exact List.prefix_append ..
theorem addM_at (f : List Mp) (m : Mp) : (addM f m)[(addM f m).idxOf m]? = some m := by
  rw [List.getElem?_eq_getElem (List.idxOf_lt_length_of_mem (addM_mem f m)), List.getElem_idxOf]
theorem pre_get {α : Type} {f g : List α} (h : f <+: g) {i : Nat} {x : α} (e : f[i]? = some x) : g[i]? = some x := by
  obtain ⟨t, rfl⟩ := h
  rw [List.getElem?_append_left (List.getElem?_eq_some_iff.mp e).1]
  exact e
/-- a move leads where the reading of a turn leads -/
def goodMv (f : List Mp) (m : Mp) (t : Bool) (v : Mv) : Prop := v.1 = (readT m t).1 ∧ f[v.2]? = some (readT m t).2
theorem goodMv.mono {f g : List Mp} (h : f <+: g) {m : Mp} {t : Bool} {v : Mv} (k : goodMv f m t v) : goodMv g m t v := ⟨k.1, pre_get h k.2⟩
theorem goneStep_ok {D : Int} (hD : D ≠ 0) {f : List Mp} {m : Mp} (h : goneOk D f) (hm : m ∈ f) :
    goneOk D (goneStep f m).1 ∧ f <+: (goneStep f m).1 ∧ goodMv (goneStep f m).1 m false (goneStep f m).2.1 ∧ goodMv (goneStep f m).1 m true (goneStep f m).2.2 := by
  have hd := (h.2 m hm).2
  have r : ∀ t, red (readT m t).2 ∧ det (readT m t).2 = D := fun t => ⟨read_red (by rw [hd]; exact hD) t, (read_det m t).trans hd⟩
  have o1 := addM_ok h (r false).1 (r false).2
  have o2 := addM_ok o1 (r true).1 (r true).2
  refine ⟨o2, (addM_pre _ _).trans (addM_pre _ _), ?_, rfl, addM_at _ _⟩
  exact goodMv.mono (addM_pre _ _) ⟨rfl, addM_at f _⟩
theorem goneOk.short {D : Int} (hD : D ≠ 0) {f : List Mp} (h : goneOk D f) : f.length ≤ (D.natAbs + 1) * (D.natAbs + 1) * (D.natAbs + 1) * (D.natAbs + 1) := by
  refine maps_short _ _ h.1 fun m hm => ?_
  obtain ⟨r, e⟩ := h.2 m hm
  have := red_small r (by rw [e]; exact hD)
  rw [e] at this
  exact this
def goneInv (D : Int) (f : List Mp) (ms : List (Mv × Mv)) : Prop := goneOk D f ∧ ms.length ≤ f.length ∧ ∀ (i : Nat) (m : Mp) (v : Mv × Mv), f[i]? = some m → ms[i]? = some v → goodMv f m false v.1 ∧ goodMv f m true v.2
theorem goneInv.step {D : Int} (hD : D ≠ 0) {f : List Mp} {ms : List (Mv × Mv)} {m : Mp} (h : goneInv D f ms) (hm : f[ms.length]? = some m) : goneInv D (goneStep f m).1 (ms ++ [(goneStep f m).2]) := by
  obtain ⟨h1, h2, h3⟩ := h
  obtain ⟨g1, g2, g3, g4⟩ := goneStep_ok hD h1 (List.mem_of_getElem? hm)
  have hl := (List.getElem?_eq_some_iff.mp hm).1
  have hl2 := g2.length_le
  refine ⟨g1, by rw [List.length_append, List.length_singleton]; omega, fun i x v hx hv => ?_⟩
  by_cases c : i < ms.length
  · rw [List.getElem?_append_left c] at hv
    have hf : f[i]? = some x := by
      have e := List.getElem?_eq_getElem (show i < f.length by omega)
      rw [pre_get g2 e] at hx
      rw [e]
      exact hx
    obtain ⟨k1, k2⟩ := h3 i x v hf hv
    exact ⟨k1.mono g2, k2.mono g2⟩
  · have e : i = ms.length := by
      have := (List.getElem?_eq_some_iff.mp hv).1
      rw [List.length_append, List.length_singleton] at this
      omega
    subst e
    rw [pre_get g2 hm] at hx
    cases hx
    rw [List.getElem?_append_right (Nat.le_refl _), Nat.sub_self] at hv
    cases hv
    exact ⟨g3, g4⟩
def goneBound (D : Int) : Nat := (D.natAbs + 1) * (D.natAbs + 1) * (D.natAbs + 1) * (D.natAbs + 1)
theorem goneGo_ok {D : Int} (hD : D ≠ 0) : ∀ (n : Nat) (f : List Mp) (ms : List (Mv × Mv)), goneInv D f ms → goneBound D < n + ms.length → goneInv D (goneGo n f ms).1 (goneGo n f ms).2 ∧ (goneGo n f ms).2.length = (goneGo n f ms).1.length ∧ f <+: (goneGo n f ms).1
  | 0, f, ms, h, l => by
    have := h.1.short hD
    have := h.2.1
    unfold goneBound at l
    omega
  | n + 1, f, ms, h, l => by
    unfold goneGo
    cases e : f[ms.length]? with
    | none =>
      have := List.getElem?_eq_none_iff.mp e
      exact ⟨h, by have := h.2.1; simp only; omega, List.prefix_refl _⟩
    | some m =>
      simp only
      have s := h.step hD e
      obtain ⟨k1, k2, k3⟩ := goneGo_ok hD n _ _ s (by rw [List.length_append, List.length_singleton]; omega)
      exact ⟨k1, k2, (goneStep_ok hD h.1 (List.mem_of_getElem? e)).2.1.trans k3⟩
/-- first road, standing maps, moves -/
def goneOf (m : Mp) : List Mp × List (Mv × Mv) := goneGo (goneBound (det m) + 1) [(leftOver m).2] []
theorem goneOf_ok {m : Mp} (h : det m ≠ 0) : goneInv (det m) (goneOf m).1 (goneOf m).2 ∧ (goneOf m).2.length = (goneOf m).1.length ∧ (goneOf m).1[0]? = some (leftOver m).2 := by
  have i0 : goneInv (det m) [(leftOver m).2] [] := by
    refine ⟨⟨by simp, fun x hx => ?_⟩, by simp, fun i x v hx hv => by simp at hv⟩
    simp at hx
    subst hx
    exact ⟨left_red h, left_det m⟩
  obtain ⟨k1, k2, k3⟩ := goneGo_ok h (goneBound (det m) + 1) _ _ i0 (by simp)
  exact ⟨k1, k2, pre_get k3 rfl⟩
/-- the lowest terms of a pair -/
def lowest (v : Nat × Nat) : Nat × Nat := (v.1 / Nat.gcd v.1 v.2, v.2 / Nat.gcd v.1 v.2)
theorem lowest_num {v : Nat × Nat} (h1 : 0 < v.1) (h2 : 0 < v.2) : ∃ w g, numB w = lowest v ∧ 0 < g ∧ v = scale g (numB w) := by
  have g0 : 0 < Nat.gcd v.1 v.2 := Nat.gcd_pos_of_pos_left _ h1
  have d1 := Nat.gcd_dvd_left v.1 v.2
  have d2 := Nat.gcd_dvd_right v.1 v.2
  obtain ⟨w, hw⟩ := num_of _ (v.1 / Nat.gcd v.1 v.2) (v.2 / Nat.gcd v.1 v.2) (Nat.le_refl _) (Nat.div_pos (Nat.le_of_dvd h1 d1) g0) (Nat.div_pos (Nat.le_of_dvd h2 d2) g0) (by
    rw [Nat.gcd_div d1 d2, Nat.div_self g0])
  refine ⟨w, Nat.gcd v.1 v.2, hw, g0, ?_⟩
  rw [hw]
  unfold scale
  rw [Nat.mul_div_cancel' d1, Nat.mul_div_cancel' d2]
theorem lowest_scale {g : Nat} (hg : 0 < g) (w : List Bool) : lowest (scale g (numB w)) = numB w := by
  have e : Nat.gcd (g * (numB w).1) (g * (numB w).2) = g := by rw [Nat.gcd_mul_left, num_gcd, Nat.mul_one]
  unfold lowest scale
  simp only
  rw [e, Nat.mul_div_cancel_left _ hg, Nat.mul_div_cancel_left _ hg]
/-- the road of a pair's fraction -/
def roadV (v : Nat × Nat) : List Bool := roadN (v.1 + v.2) (lowest v).1 (lowest v).2
theorem roadV_num {v : Nat × Nat} (h1 : 0 < v.1) (h2 : 0 < v.2) : numB (roadV v) = lowest v := by
  obtain ⟨w, g, e, g0, es⟩ := lowest_num h1 h2
  have l := num_len w
  have e2 : roadV v = w := by
    unfold roadV
    rw [← e]
    refine roadN_num _ w ?_
    have a1 : (numB w).1 ≤ v.1 := by rw [es]; exact Nat.le_mul_of_pos_left _ g0
    have a2 : (numB w).2 ≤ v.2 := by rw [es]; exact Nat.le_mul_of_pos_left _ g0
    omega
  rw [e2, e]
theorem roadV_scale {g : Nat} (hg : 0 < g) (w : List Bool) : roadV (scale g (numB w)) = w := by
  have p := num_pos w
  refine num_inj _ _ ?_
  rw [roadV_num (Nat.mul_pos hg p.1) (Nat.mul_pos hg p.2), lowest_scale hg]
theorem ap_pos {m : Mp} (h : det m ≠ 0) {v : Nat × Nat} (h1 : 0 < v.1) (h2 : 0 < v.2) : 0 < (ap m v).1 ∧ 0 < (ap m v).2 := by
  obtain ⟨r1, r2⟩ := det_row h
  constructor
  · show 0 < m.a * v.1 + m.b * v.2
    rcases Nat.eq_zero_or_pos m.a with e | e
    · have := Nat.mul_pos (show 0 < m.b by omega) h2
      omega
    · have := Nat.mul_pos e h1
      omega
  · show 0 < m.c * v.1 + m.d * v.2
    rcases Nat.eq_zero_or_pos m.c with e | e
    · have := Nat.mul_pos (show 0 < m.d by omega) h2
      omega
    · have := Nat.mul_pos e h1
      omega
end DL
namespace DL
open PySem PySem.Spec PyProof.Rows L2
/-! ### loops over states -/
theorem while_at {α : Type} {s : DTT} {u : DTS} {E : DEnds} (st : α → DEnv) (I : α → Prop) (μ : α → Nat) (test : α → Bool) {x0 : α} (h0 : I x0)
    (ht : ∀ x, I x → ∀ K : Bool → DEnv → Prop, K (test x) (st x) → s (st x) K)
    (body : ∀ x, I x → test x = true → ∀ N : DEnv → Prop, (∀ y, I y → μ y < μ x → N (st y)) → u { E with nx := N, ct := N, bk := E.nx } (st x))
    (done : ∀ x, I x → test x = false → E.nx (st x)) : sWhile s u E (st x0) := by
  refine while_of (fun m ρ => ∃ x, I x ∧ m = μ x ∧ ρ = st x) ⟨_, x0, h0, rfl, rfl⟩ ?_
  rintro m ρ ⟨x, hx, rfl, rfl⟩
  refine ⟨test x, ht x hx, fun e N hN => body x hx e N fun y hy lt => hN _ _ lt ⟨y, hy, rfl, rfl⟩, done x hx⟩
theorem for_at {α β : Type} {g : DTG} {u : DTS} {E : DEnds} (f : α → PyData) (st : β → DEnv) (I : List α → β → Prop) (done : ∀ b, I [] b → E.nx (st b))
    (step : ∀ x r b, I (x :: r) b → ∀ N : DEnv → Prop, (∀ b', I r b' → N (st b')) → g (f x) (st b) fun ρ1 => u { E with nx := N, ct := N, bk := E.nx } ρ1) : ∀ (xs : List α) (b : β), I xs b → forGo g u E (xs.map f) (st b)
  | [], b, h => done b h
  | x :: r, b, h => step x r b h _ fun b' h' => for_at f st I done step r b' h'
/-- a comprehension over told things that leaves the names as they are -/
theorem lc_at {α : Type} {g : DTG} {tt : DTT} {te : DT} {vs : List Nat} {ρ : DEnv} (f : α → PyData) (r : α → PyData) (xs : List α) {q : PyData → DEnv → Prop} (hp : plainC ρ vs = true)
    (step : ∀ x ∈ xs, ∀ (Q1 : PyData → DEnv → Prop) (Q2 : DEnv → Prop), (∀ ρ4, backD ρ ρ4 vs = ρ → Q1 (r x) ρ4) → g (f x) (wipeD ρ vs) fun ρ1 => tt ρ1 fun b ρ2 => if b = true then te ρ2 fun o ρ3 => o.tk ρ3 Q1 else Q2 ρ2)
    (hl : xs.length ≤ 16777216) (h : q (.list (xs.map r)) ρ) : lcGo g tt te vs (xs.map f) [] ρ q := by
  have go : ∀ (ys : List α) (acc : List PyData), (∀ y ∈ ys, y ∈ xs) → acc.length + ys.length ≤ 16777216 → q (.list (acc ++ ys.map r)) ρ → lcGo g tt te vs (ys.map f) acc ρ q := by
    intro ys
    induction ys with
    | nil =>
      intro acc _ _ h
      simpa [lcGo] using h
    | cons y ys ih =>
      intro acc hm hl h
      rw [List.length_cons] at hl
      refine step y (hm y (List.mem_cons_self ..)) _ _ fun ρ4 e => ⟨by omega, by rw [e]; exact hp, ?_⟩
      rw [e]
      refine ih (acc ++ [r y]) (fun z hz => hm z (List.mem_cons_of_mem _ hz)) (by rw [List.length_append, List.length_singleton]; omega) ?_
      rw [List.append_assoc]
      exact h
  exact go xs [] (fun _ h => h) (by simpa using hl) h
theorem natAbs_if (i : Int) : (if i < 0 then -i else i) = (i.natAbs : Int) := by
  split <;> omega
theorem if_if {P Q A B : Prop} [Decidable P] [Decidable Q] : (if P then (if Q then A else B) else B) = (if P ∧ Q then A else B) := by
  by_cases h : P <;> by_cases h2 : Q <;> simp [h, h2]
theorem repW (t : Bool) (k : Nat) : S (repS (enc [t]) (k : Int)) = Wd (List.replicate k t) := by
  unfold repS Wd enc
  rw [Int.toNat_natCast]
  congr 1
  induction k with
  | zero => rfl
  | succ k ih => rw [List.replicate_succ, List.flatten_cons, ih, List.replicate_succ]; rfl
/-! ### dicts that number a list's things -/
def numG {α : Type} (en : α → PyData) : Nat → List α → List (PyData × PyData)
  | _, [] => []
  | k, x :: r => (en x, .int (k : Nat)) :: numG en (k + 1) r
theorem numG_len {α : Type} (en : α → PyData) : ∀ (xs : List α) (k : Nat), (numG en k xs).length = xs.length
  | [], _ => rfl
  | _ :: r, k => congrArg Nat.succ (numG_len en r (k + 1))
theorem numG_app {α : Type} (en : α → PyData) (x : α) : ∀ (xs : List α) (k : Nat), numG en k (xs ++ [x]) = numG en k xs ++ [(en x, .int ((k + xs.length : Nat) : Int))]
  | [], k => rfl
  | y :: r, k => by
    show (en y, _) :: numG en (k + 1) (r ++ [x]) = _
    rw [numG_app en x r (k + 1)]
    show _ = (en y, _) :: (numG en (k + 1) r ++ _)
    rw [List.length_cons, show k + 1 + r.length = k + (r.length + 1) by omega]
section
variable {α : Type} [DecidableEq α] {en : α → PyData} {kb : PyData → PyData → Bool} (hk : ∀ a b : α, kb (en a) (en b) = decide (a = b))
include hk
theorem numG_look (x : α) : ∀ (xs : List α) (k : Nat), dLook (numG en k xs) (fun e => kb e (en x)) = if x ∈ xs then some (.int ((k + xs.idxOf x : Nat) : Int)) else none
  | [], k => by simp [dLook, numG]
  | y :: r, k => by
    have ih := numG_look x r (k + 1)
    unfold dLook at ih ⊢
    show ((List.find? (fun e => kb e.1 (en x)) ((en y, _) :: numG en (k + 1) r)).map (·.2)) = _
    by_cases e : y = x
    · subst e
      rw [List.find?_cons_of_pos (by show kb (en y) (en y) = true; rw [hk]; simp)]
      simp
    · rw [List.find?_cons_of_neg (by show ¬ kb (en y) (en x) = true; rw [hk]; simpa using e), ih]
      have e' : ¬ x = y := fun z => e z.symm
      by_cases m : x ∈ r
      · have e2 : (y :: r).idxOf x = r.idxOf x + 1 := by
          rw [List.idxOf_cons, show (y == x) = false by simpa using e]
          rfl
        rw [if_pos m, if_pos (List.mem_cons_of_mem _ m), e2]
        congr 3
        omega
      · rw [if_neg m, if_neg (by simp [e', m])]
theorem numG_any (x : α) : ∀ (xs : List α) (k : Nat), ((numG en k xs).any fun e => kb e.1 (en x)) = decide (x ∈ xs)
  | [], k => by simp [numG]
  | y :: r, k => by
    show (kb (en y) (en x) || (numG en (k + 1) r).any fun e => kb e.1 (en x)) = _
    rw [numG_any x r (k + 1), hk]
    by_cases e : y = x
    · subst e; simp
    · have e' : ¬ x = y := fun z => e z.symm
      simp [e, e']
end
theorem numT_get {α : Type} [DecidableEq α] {en : α → PyData} (hk : ∀ a b : α, keyBT (en a) (en b) = decide (a = b)) (x : α) (xs : List α) : dGetT (numG en 0 xs) (en x) = if x ∈ xs then some (.int (xs.idxOf x : Nat)) else none := by
  unfold dGetT
  rw [numG_look hk]
  simp
theorem numT_put {α : Type} [DecidableEq α] {en : α → PyData} (hk : ∀ a b : α, keyBT (en a) (en b) = decide (a = b)) {x : α} {xs : List α} (h : x ∉ xs) : dPutT (numG en 0 xs) (en x) (.int (xs.length : Nat)) = numG en 0 (xs ++ [x]) := by
  unfold dPutT
  rw [numG_any hk, if_neg (by simpa using h), numG_app]
  simp
theorem numK_get {α : Type} [DecidableEq α] {en : α → PyData} (hk : ∀ a b : α, keyB (en a) (en b) = decide (a = b)) (x : α) (xs : List α) : dGetD (numG en 0 xs) (en x) = if x ∈ xs then some (.int (xs.idxOf x : Nat)) else none := by
  unfold dGetD
  rw [numG_look hk]
  simp
theorem numK_put {α : Type} [DecidableEq α] {en : α → PyData} (hk : ∀ a b : α, keyB (en a) (en b) = decide (a = b)) {x : α} {xs : List α} (h : x ∉ xs) : dPutD (numG en 0 xs) (en x) (.int (xs.length : Nat)) = numG en 0 (xs ++ [x]) := by
  unfold dPutD
  rw [numG_any hk, if_neg (by simpa using h), numG_app]
  simp
end DL
namespace DL
open PySem PySem.Spec PyProof.Rows L2
def F_has_turns_alone : DF := fun ds q => ∃ w : List Bool, ds = [Wd w] ∧ w.length ≤ 16777216 ∧ q (.bool true) .none
theorem bools_true : ∀ (n : Nat), boolsOf (List.replicate n (.bool true)) = some (List.replicate n true)
  | 0 => rfl
  | n + 1 => by simp only [List.replicate_succ, boolsOf, bools_true n, Option.map_some]
theorem mem_enc {c : Nat} {w : List Bool} (h : c ∈ enc w) : c ∈ [76, 82] := by
  obtain ⟨b, _, rfl⟩ := List.mem_map.mp h
  cases b <;> decide
theorem pl_has_turns_alone : PL_has_turns_alone F_has_turns_alone := by
  intro ds q a _ h
  obtain ⟨w, rfl, hl, hq⟩ := h
  refine ⟨_, rfl, rfl, lcGo_map (fun _ => .bool true) rfl _ _ _ (fun d hd Q1 Q2 k => ?_) ?_ ?_⟩
  · obtain ⟨c, hc, rfl⟩ := List.mem_map.mp hd
    refine ⟨c, rfl, ?_⟩
    show Q1 (.bool (decide (c ∈ [76, 82]))) _
    rw [decide_eq_true (mem_enc hc)]
    exact k _ rfl
  · rw [List.length_map]
    show 0 + (enc w).length ≤ _
    rw [enc_len]; omega
  · refine ⟨List.replicate w.length true, ?_, ?_⟩
    · rw [← bools_true, List.nil_append, List.map_map]
      congr 1
      show (L (mk (enc w))).map (fun _ => PyData.bool true) = _
      rw [List.map_const', L_mk, enc_len]
    · show q (.bool ((List.replicate w.length true).all id)) .none
      have : (List.replicate w.length true).all id = true := by
        rw [List.all_eq_true]
        intro b hb
        rw [(List.mem_replicate.mp hb).2]; rfl
      rw [this]
      exact hq
def F_check_road : DF := fun ds q => ∃ w : List Bool, ds = [Wd w] ∧ w.length ≤ 16777216 ∧ q .none .none
theorem pl_check_road : PL_check_road F_check_road F_has_turns_alone := by
  intro ds q a _ h
  obtain ⟨w, rfl, hl, hq⟩ := h
  exact ⟨rfl, w, rfl, hl, .inl rfl, hq⟩
def F_check_number : DF := fun ds q => ∃ n m : Int, ds = [.int n, .int m] ∧ m ≤ n ∧ q .none .none
theorem pl_check_number : PL_check_number F_check_number := by
  intro ds q a _ h
  obtain ⟨n, m, rfl, hl, hq⟩ := h
  refine ⟨trivial, ?_⟩
  show if decide (n < m) = true then _ else _
  rw [if_neg (by simpa using hl)]
  exact hq
/-- a machine: the beginning, the rows -/
abbrev Move := List Bool × Nat
abbrev Row := Move × Move × List Bool
def mvD (m : Move) : PyData := .tuple [Wd m.1, .int m.2]
def rowD (r : Row) : PyData := .tuple [mvD r.1, mvD r.2.1, Wd r.2.2]
def macD (f : List Bool) (rows : List Row) : PyData := .tuple [Wd f, .list (rows.map rowD)]
def mvOk (n : Nat) (m : Move) : Prop := m.1.length ≤ 16777216 ∧ m.2 < n
def rowOk (n : Nat) (r : Row) : Prop := mvOk n r.1 ∧ mvOk n r.2.1 ∧ r.2.2.length ≤ 16777216
def macOk (f : List Bool) (rows : List Row) : Prop := f.length ≤ 16777216 ∧ 0 < rows.length ∧ ∀ r ∈ rows, rowOk rows.length r
def F_is_move : DF := fun ds q => ∃ (m : Move) (n : Nat), ds = [mvD m, .int n] ∧ mvOk n m ∧ q (.bool true) .none
theorem pl_is_move : PL_is_move F_is_move F_has_turns_alone := by
  intro ds q a _ h
  obtain ⟨m, n, rfl, ⟨h1, h2⟩, hq⟩ := h
  refine ⟨rfl, rfl, rfl, m.1, rfl, h1, .inl rfl, trivial, ?_⟩
  show (match PyData.bool (decide ((0 : Int) ≤ (m.2 : Nat))) with | .bool b => if b = true then _ else _ | _ => False)
  rw [decide_eq_true (p := (0 : Int) ≤ (m.2 : Nat)) (by omega)]
  refine ⟨trivial, ?_⟩
  show q (.bool (decide (((m.2 : Nat) : Int) < n))) .none
  rw [decide_eq_true (by omega)]
  exact hq
def F_check_machine : DF := fun ds q => ∃ f rows, ds = [macD f rows] ∧ macOk f rows ∧ q .none .none
theorem pl_check_machine : PL_check_machine F_check_machine F_has_turns_alone F_is_move := by
  intro ds q a _ h
  obtain ⟨f, rows, rfl, ⟨h1, h2, h3⟩, hq⟩ := h
  refine ⟨rfl, rfl, rfl, rfl, ?_⟩
  have e : PyData.eqv (.int ((rows.map rowD).length : Nat)) (.int 0) = false := by
    rw [eqv_int, List.length_map]
    exact decide_eq_false (by omega)
  rw [e]
  refine ⟨rfl, f, rfl, h1, .inl rfl, ?_⟩
  refine ⟨_, rfl, ?_⟩
  refine forGo_inv (fun r ρ => (∃ rs : List Row, r = rs.map rowD ∧ ∀ x ∈ rs, rowOk rows.length x) ∧ ∃ x1 x2 x3, ρ = [some (.val (macD f rows)), some (.val (.int (rows.length : Nat))), some (.val (Wd f)), some (.val (.list (rows.map rowD))), x1, x2, x3]) (fun ρ _ => hq) (fun d r ρ N hN hI => ?_) _ _ ⟨⟨rows, rfl, h3⟩, none, none, none, ?_⟩
  · obtain ⟨⟨rs, e, ok⟩, x1, x2, x3, rfl⟩ := hI
    cases rs with
    | nil => cases e
    | cons x rs =>
      cases e
      obtain ⟨o1, o2, o3⟩ := ok x (List.mem_cons_self ..)
      refine ⟨rfl, rfl, rfl, x.1, rows.length, rfl, o1, .inl rfl, rfl, x.2.1, rows.length, rfl, o2, .inl rfl, rfl, x.2.2, rfl, o3, .inl rfl, ?_⟩
      exact hN _ ⟨⟨rs, rfl, fun y hy => ok y (List.mem_cons_of_mem _ hy)⟩, _, _, _, rfl⟩
  · simp only [List.length_map]
    rfl
end DL
namespace DL
open PySem PySem.Spec PyProof.Rows L2
def mvOf (r : Row) (t : Bool) : Move := if t then r.2.1 else r.1
def F_move_of : DF := fun ds q => ∃ (rows : List Row) (s : Nat) (r : Row) (t : Bool), ds = [.list (rows.map rowD), .int s, S [sg t]] ∧ rows[s]? = some r ∧ q (mvD (mvOf r t)) .none
theorem at_row {rows : List Row} {s : Nat} {r : Row} (h : rows[s]? = some r) : atI (rows.map rowD) (s : Int) = some (rowD r) := atI_nat (by rw [List.getElem?_map, h]; rfl)
theorem sg_eq (t : Bool) : PyData.eqv (S [sg t]) (S [76]) = !t := by
  cases t <;> decide
theorem pl_move_of : PL_move_of F_move_of := by
  intro ds q a _ h
  obtain ⟨rows, s, r, t, rfl, hr, hq⟩ := h
  refine ⟨_, at_row hr, ⟨shaped_sg t, shaped_sg false, ?_⟩⟩
  rw [sg_eq]
  cases t with
  | true => exact ⟨mvD r.2.1, rfl, hq⟩
  | false => exact ⟨mvD r.1, rfl, hq⟩
/-- what is written along a road, and where one ends -/
def walk (rows : List Row) : Nat → List Bool → List Bool × Nat
  | s, [] => ([], s)
  | s, t :: w => match rows[s]? with
    | some r => let m := mvOf r t; let x := walk rows m.2 w; (m.1 ++ x.1, x.2)
    | none => ([], s)
def walkL (rows : List Row) : Nat → List Bool → List (List Bool)
  | _, [] => []
  | s, t :: w => match rows[s]? with
    | some r => (mvOf r t).1 :: walkL rows (mvOf r t).2 w
    | none => []
theorem walk_flat (rows : List Row) : ∀ (w : List Bool) (s : Nat), (walkL rows s w).flatten = (walk rows s w).1
  | [], s => rfl
  | t :: w, s => by
    unfold walkL walk
    cases h : rows[s]? with
    | none => rfl
    | some r =>
      simp only [List.flatten_cons, walk_flat rows w]
theorem mv_ok {rows : List Row} {n s : Nat} {r : Row} (h : ∀ x ∈ rows, rowOk n x) (hr : rows[s]? = some r) (t : Bool) : mvOk n (mvOf r t) := by
  obtain ⟨h1, h2, _⟩ := h r (List.mem_of_getElem? hr)
  cases t
  · exact h1
  · exact h2
theorem walk_lt {rows : List Row} (h : ∀ x ∈ rows, rowOk rows.length x) : ∀ (w : List Bool) (s : Nat), s < rows.length → (walk rows s w).2 < rows.length
  | [], s, hs => hs
  | t :: w, s, hs => by
    unfold walk
    obtain ⟨r, hr⟩ : ∃ r, rows[s]? = some r := ⟨_, List.getElem?_eq_getElem hs⟩
    rw [hr]
    exact walk_lt h w _ (mv_ok h hr t).2
def F_walked_on : DF := fun ds q => ∃ (rows : List Row) (s : Nat) (w : List Bool), ds = [.list (rows.map rowD), .int s, Wd w] ∧ (∀ x ∈ rows, rowOk rows.length x) ∧ s < rows.length ∧ w.length ≤ 16777216 ∧ (walk rows s w).1.length ≤ 16777216 ∧
  q (.tuple [Wd (walk rows s w).1, .int (walk rows s w).2]) .none
theorem strs_of : ∀ (ws : List (List Bool)), strsOf (ws.map Wd) = some (ws.map fun w => mk (enc w))
  | [] => rfl
  | w :: ws => by simp only [List.map_cons, strsOf, strs_of ws, Option.map_some]
theorem sum_len : ∀ (ws : List (List Bool)), ((ws.map fun w => mk (enc w)).map (·.length)).sum = ws.flatten.length
  | [] => rfl
  | w :: ws => by
    simp only [List.map_cons, List.sum_cons, sum_len ws, List.flatten_cons, List.length_append]
    congr 1
    rw [← L_len, L_mk, enc_len]
theorem pl_walked_on : PL_walked_on F_walked_on F_move_of := by
  intro ds q a _ h
  obtain ⟨rows, s, w, rfl, ok, hs, hw, ht, hq⟩ := h
  refine ⟨Nat.zero_le _, fun p => ⟨_, rfl, ?_⟩⟩
  refine forGo_inv (fun r ρ => ∃ (w1 w2 : List Bool) (s2 : Nat) (ds : List (List Bool)) (x4 x5 : Option Cell), w2.length ≤ w.length ∧ ds.length + w2.length = w.length ∧ r = w2.map (fun b => S [sg b]) ∧ s2 < rows.length ∧ ds ++ walkL rows s2 w2 = walkL rows s w ∧ (walk rows s2 w2).2 = (walk rows s w).2 ∧
    ρ = [some (.val (.list (rows.map rowD))), some (.val (.int s2)), some (.val (Wd w)), some (.own p (.list (ds.map Wd))), x4, x5]) (fun ρ hI => ?_) (fun d r ρ N hN hI => ?_) _ _ ?_
  · obtain ⟨w1, w2, s2, ds, x4, x5, l1, l2, e, l3, e2, e3, rfl⟩ := hI
    have w0 : w2 = [] := by
      cases w2 with
      | nil => rfl
      | cons b w2 => cases e
    subst w0
    simp only [walkL, List.append_nil] at e2
    refine ⟨_, strs_of _, ?_, ?_⟩
    · rw [sum_len, e2, walk_flat]
      show _ + _ * 0 ≤ _
      omega
    · refine ⟨Nat.le_of_ble_eq_true rfl, ?_⟩
      rw [join_none, e2, walk_flat, show s2 = (walk rows s w).2 from e3]
      exact hq
  · obtain ⟨w1, w2, s2, ds, x4, x5, l1, l2, e, l3, e2, e3, rfl⟩ := hI
    cases w2 with
    | nil => cases e
    | cons b w2 =>
      cases e
      obtain ⟨r, hr⟩ : ∃ r, rows[s2]? = some r := ⟨_, List.getElem?_eq_getElem l3⟩
      refine ⟨rfl, rows, s2, r, b, rfl, hr, .inr rfl, rfl, rfl, ?_, ?_⟩
      · rw [List.length_map]
        have := l2
        rw [List.length_cons] at this
        omega
      · refine hN _ ⟨w1, w2, (mvOf r b).2, ds ++ [(mvOf r b).1], some (.val (S [sg b])), some (.val (Wd (mvOf r b).1)), ?_, ?_, rfl, (mv_ok ok hr b).2, ?_, ?_, ?_⟩
        · rw [List.length_cons] at l1; omega
        · rw [List.length_cons] at l2; rw [List.length_append, List.length_singleton]; omega
        · rw [← e2, List.append_assoc]
          congr 1
          conv => rhs; unfold walkL
          rw [hr]
          rfl
        · rw [← e3]
          conv => rhs; unfold walk
          rw [hr]
        · rw [List.map_append]
          rfl
  · refine ⟨[], w, s, [], none, none, Nat.le_refl _, Nat.zero_add _, ?_, hs, rfl, rfl, rfl⟩
    show (L (mk (enc w))).map _ = _
    rw [L_mk, enc, List.map_map]
    rfl
end DL
namespace DL
open PySem PySem.Spec PyProof.Rows L2
/-- what a machine writes for a road -/
def runM (f : List Bool) (rows : List Row) (w : List Bool) : List Bool := f ++ (walk rows 0 w).1 ++ ((rows[(walk rows 0 w).2]?).map (·.2.2)).getD []
def F_run : DF := fun ds q => ∃ (f : List Bool) (rows : List Row) (w : List Bool), ds = [macD f rows, Wd w] ∧ macOk f rows ∧ w.length ≤ 16777216 ∧ (runM f rows w).length ≤ 16777216 ∧ q (Wd (runM f rows w)) .none
theorem pl_run : PL_run F_run F_check_machine F_check_road F_walked_on := by
  intro ds q a _ h
  obtain ⟨f, rows, w, rfl, ok, hw, hl, hq⟩ := h
  have hs := walk_lt ok.2.2 w 0 ok.2.1
  obtain ⟨r, hr⟩ : ∃ r, rows[(walk rows 0 w).2]? = some r := ⟨_, List.getElem?_eq_getElem hs⟩
  have e : runM f rows w = f ++ (walk rows 0 w).1 ++ r.2.2 := by unfold runM; rw [hr]; rfl
  rw [e] at hl hq
  simp only [List.length_append] at hl
  refine ⟨rfl, f, rows, rfl, ok, .inl rfl, rfl, w, rfl, hw, .inl rfl, rfl, rfl, rfl, rows, 0, w, rfl, ok.2.2, ok.2.1, hw, by omega, .inl rfl, rfl, rfl, ?_⟩
  refine ⟨?_, _, at_row hr, Wd r.2.2, rfl, ?_, ?_⟩
  · show (enc _).length + (enc _).length ≤ _
    rw [enc_len, enc_len]; omega
  · show (enc _ ++ enc _).length + (enc _).length ≤ _
    rw [List.length_append, enc_len, enc_len, enc_len]; omega
  · show q (S (enc _ ++ enc _ ++ enc _)) .none
    rw [← enc_app, ← enc_app]
    exact hq
end DL
namespace DL
open PySem PySem.Spec PyProof.Rows L2
def mpD (m : Mp) : PyData := .tuple [.int m.a, .int m.b, .int m.c, .int m.d]
def frD (v : Nat × Nat) : PyData := .tuple [.int v.1, .int v.2]
def gcdL (g : Nat) (ns : List Int) : Nat := ns.foldl (fun g n => Nat.gcd g n.natAbs) g
def F_divisor_of : DF := fun ds q => ∃ ns : List Int, ds = [.tuple (ns.map .int)] ∧ q (.int (gcdL 0 ns)) .none
theorem pl_divisor_of : PL_divisor_of F_divisor_of := by
  intro ds q a _ h
  obtain ⟨ns, rfl, hq⟩ := h
  simp [t_divisor_of]
  refine for_at (β := Nat × Option Cell × Option Cell) PyData.int (fun b => [some (.val (.tuple (ns.map .int))), some (.val (.int b.1)), b.2.1, b.2.2]) (fun r b => gcdL b.1 r = gcdL 0 ns) ?_ ?_ ns (0, none, none) rfl
  · rintro ⟨g, x2, x3⟩ h
    simp [gcdL] at h
    simp [h]
    exact hq
  · rintro x r ⟨g, x2, x3⟩ h N hN
    simp [natAbs_if]
    refine while_at (α := Nat × Nat) (fun z => [some (.val (.tuple (ns.map .int))), some (.val (.int z.1)), some (.val (.int x)), some (.val (.int z.2))]) (fun z => Nat.gcd z.1 z.2 = Nat.gcd g x.natAbs) (fun z => z.2) (fun z => decide (z.2 ≠ 0)) (x0 := (g, x.natAbs)) rfl ?_ ?_ ?_
    · rintro ⟨f, y⟩ _ K hK
      simp at hK ⊢
      exact hK
    · rintro ⟨f, y⟩ e hy M hM
      simp at e hy
      simp
      refine ⟨by omega, ?_⟩
      have := hM (y, f % y) (by simp; rw [← e, Nat.gcd_comm y, Nat.gcd_comm f, ← Nat.gcd_rec]) (Nat.mod_lt _ (by omega))
      simpa using this
    · rintro ⟨f, y⟩ e hy
      simp at e hy
      subst hy
      simp at e
      refine hN (f, some (.val (.int x)), some (.val (.int (0 : Nat)))) ?_
      simp [gcdL] at h ⊢
      rw [e, ← h]
def F_check_fraction : DF := fun ds q => ∃ v : Nat × Nat, ds = [frD v] ∧ 0 < v.1 ∧ 0 < v.2 ∧ Nat.gcd v.1 v.2 = 1 ∧ q .none .none
theorem pl_check_fraction : PL_check_fraction F_check_fraction F_divisor_of := by
  intro ds q a _ h
  obtain ⟨⟨x, y⟩, rfl, h1, h2, h3, hq⟩ := h
  simp at h1 h2 h3
  simp [t_check_fraction, frD]
  refine ⟨?_, [(x : Int), (y : Int)], rfl, ?_⟩
  · simp [minI]
    omega
  · simp [gcdL, h3, hq]
def F_check_map : DF := fun ds q => ∃ m : Mp, ds = [mpD m] ∧ det m ≠ 0 ∧ Nat.gcd (Nat.gcd (Nat.gcd m.a m.b) m.c) m.d = 1 ∧ msum m ≤ 1000000000 ∧ q .none .none
theorem mul_small {x y : Nat} (h : x ≤ 1000000000) : CMulA (x : Int) (y : Int) := .inl (by simp; omega)
theorem pl_check_map : PL_check_map F_check_map F_divisor_of := by
  intro ds q a _ h
  obtain ⟨m, rfl, h1, h2, h3, hq⟩ := h
  simp only [msum] at h3
  simp [t_check_map, mpD]
  refine ⟨?_, mul_small (by omega), mul_small (by omega), ?_, [(m.a : Int), m.b, m.c, m.d], rfl, ?_⟩
  · simp [minI]
    omega
  · simp only [det] at h1
    omega
  · simp [gcdL, h2, hq]
theorem log2_le {n k : Nat} (h : n < 2 ^ (k + 1)) : n.log2 ≤ k := by
  have := PySem.Flt.log2_lt_of (n := n) (k := k + 1) (by omega) h
  omega
theorem div_small {x : Int} {y : Nat} (h : 0 < y) (h2 : y ≤ 4000000000) : CDivW x (y : Int) := ⟨by omega, Nat.lt_of_le_of_lt (log2_le (k := 32) (by simp only [Int.natAbs_natCast]; omega)) (by decide)⟩
def F_divided : DF := fun ds q => ∃ v : Nat × Nat, ds = [frD v] ∧ 0 < v.1 ∧ v.1 ≤ 4000000000 ∧ q (frD (v.1 / Nat.gcd v.1 v.2, v.2 / Nat.gcd v.1 v.2)) .none
theorem pl_divided : PL_divided F_divided F_divisor_of := by
  intro ds q a _ h
  obtain ⟨⟨x, y⟩, rfl, h1, h2, hq⟩ := h
  simp at h1 h2
  have g1 : 0 < Nat.gcd x y := Nat.gcd_pos_of_pos_left _ h1
  have g2 : Nat.gcd x y ≤ 4000000000 := Nat.le_trans (Nat.gcd_le_left _ h1) h2
  simp [t_divided, frD]
  refine ⟨[(x : Int), (y : Int)], rfl, ?_⟩
  simp [gcdL, plainC, plain1, lcGo, wipeD, backD]
  exact ⟨div_small g1 g2, div_small g1 g2, hq⟩


def F_image : DF := fun ds q => ∃ (m : Mp) (v : Nat × Nat), ds = [mpD m, frD v] ∧ msum m ≤ 1000000000 ∧ 0 < (ap m v).1 ∧ (ap m v).1 ≤ 4000000000 ∧ q (frD (lowest (ap m v))) .none
theorem pl_image : PL_image F_image F_divided := by
  intro ds q a _ h
  obtain ⟨m, v, rfl, h0, h1, h2, hq⟩ := h
  simp only [msum] at h0
  simp [t_image, mpD, frD]
  refine ⟨mul_small (by omega), mul_small (by omega), mul_small (by omega), mul_small (by omega), ap m v, ?_, h1, h2, ?_⟩
  · simp [frD, ap]
  · simpa [frD, lowest] using hq
def F_left_over : DF := fun ds q => ∃ m : Mp, ds = [mpD m] ∧ det m ≠ 0 ∧ msum m ≤ 1000000 ∧ q (.tuple [Wd (leftOver m).1, mpD (leftOver m).2]) .none
theorem lo_down {m m' : Mp} (h : det m ≠ 0) {t : Bool} (e : preT t m' = m) : det m' ≠ 0 ∧ msum m' < msum m ∧ lo (msum m + 1) m = (t :: (leftOver m').1, (leftOver m').2) := by
  have d : det m' = det m := by rw [← e, det_pre]
  have h' : det m' ≠ 0 := by rw [d]; exact h
  have lt : msum m' < msum m := by
    have := det_row h'
    rw [← e]
    cases t <;> simp [msum, preT] <;> omega
  refine ⟨h', lt, ?_⟩
  rw [← left_eq h' lt]
  have := det_row h'
  have r2 := det_row h
  subst e
  obtain ⟨a, b, c, d⟩ := m'
  cases t
  · rw [lo, if_neg (by simp [preT] at *; omega), if_pos (by simp [preT])]
    simp [preT]
  · rw [lo, if_pos (by simp [preT])]
    simp [preT]
theorem pl_left_over : PL_left_over F_left_over := by
  intro ds q a _ h
  obtain ⟨m, rfl, h0, h1, hq⟩ := h
  simp [t_left_over, mpD]
  intro p
  refine while_at (α := List (List Bool) × Mp) (fun z => [some (.val (mpD m)), some (.own p (.list (z.1.map Wd))), some (.val (.int z.2.a)), some (.val (.int z.2.b)), some (.val (.int z.2.c)), some (.val (.int z.2.d))])
    (fun z => det z.2 ≠ 0 ∧ z.1.length + msum z.2 ≤ 1000000 ∧ (∀ w ∈ z.1, w.length = 1) ∧ (z.1.flatten ++ (leftOver z.2).1, (leftOver z.2).2) = leftOver m) (fun z => msum z.2) (fun _ => true) (x0 := ([], m)) ⟨h0, by simpa using h1, by simp, by simp⟩ ?_ ?_ ?_
  · rintro ⟨ws, m'⟩ _ K hK
    simpa using hK
  · rintro ⟨ws, m'⟩ ⟨d0, l0, w0, e0⟩ _ N hN
    simp at d0 l0 w0 e0
    have row := det_row d0
    have len : ws.flatten.length = ws.length := by
      clear hN e0 l0
      induction ws with
      | nil => rfl
      | cons w ws ih =>
        simp at w0 ih ⊢
        rw [w0.1, ih w0.2]
        omega
    by_cases c1 : m'.c ≤ m'.a ∧ m'.d ≤ m'.b
    · obtain ⟨k1, k2, k3⟩ := lo_down (m := m') (m' := ⟨m'.a - m'.c, m'.b - m'.d, m'.c, m'.d⟩) (t := true) d0 (by cases m'; simp [preT] at *; omega)
      simp
      simp only [if_if]
      rw [if_pos c1]
      refine ⟨by omega, ?_⟩
      have := hN (ws ++ [[true]], ⟨m'.a - m'.c, m'.b - m'.d, m'.c, m'.d⟩) ⟨k1, by simp; omega, by simp; intro w hw; rcases hw with hw | rfl; exact w0 w hw; rfl, ?_⟩ k2
      · simp [Int.natCast_sub c1.1, Int.natCast_sub c1.2] at this
        exact this
      · rw [← e0]
        show _ = ((ws.flatten ++ (leftOver m').1, (leftOver m').2) : List Bool × Mp)
        rw [show leftOver m' = _ from k3]
        simp
    · by_cases c2 : m'.a ≤ m'.c ∧ m'.b ≤ m'.d
      · obtain ⟨k1, k2, k3⟩ := lo_down (m := m') (m' := ⟨m'.a, m'.b, m'.c - m'.a, m'.d - m'.b⟩) (t := false) d0 (by cases m'; simp [preT] at *; omega)
        simp
        simp only [if_if]
        rw [if_neg c1, if_pos c2]
        refine ⟨by omega, ?_⟩
        have := hN (ws ++ [[false]], ⟨m'.a, m'.b, m'.c - m'.a, m'.d - m'.b⟩) ⟨k1, by simp; omega, by simp; intro w hw; rcases hw with hw | rfl; exact w0 w hw; rfl, ?_⟩ k2
        · simp [Int.natCast_sub c2.1, Int.natCast_sub c2.2] at this
          exact this
        · rw [← e0]
          show _ = ((ws.flatten ++ (leftOver m').1, (leftOver m').2) : List Bool × Mp)
          rw [show leftOver m' = _ from k3]
          simp
      · have e : leftOver m' = ([], m') := by
          unfold leftOver lo
          rw [if_neg c1, if_neg c2]
        rw [e] at e0
        simp
        simp only [if_if]
        rw [if_neg c1, if_neg c2]
        refine ⟨?_, ?_⟩
        · simp at len
          omega
        · rw [← e0] at hq
          simpa [mpD] using hq
  · intro x _ h
    cases h
def F_read_turn : DF := fun ds q => ∃ (m : Mp) (t : Bool), ds = [mpD m, Wd [t]] ∧ det m ≠ 0 ∧ msum m ≤ 100000 ∧ q (.tuple [Wd (readT m t).1, mpD (readT m t).2]) .none
theorem pl_read_turn : PL_read_turn F_read_turn F_left_over := by
  intro ds q a _ h
  obtain ⟨m, t, rfl, h0, h1, hq⟩ := h
  simp only [msum] at h1
  simp [t_read_turn, mpD]
  cases t
  · simp
    refine ⟨mulT m false, by simp [mpD, mulT], by rw [det_mul]; exact h0, ?_, ?_⟩
    · simp [msum, mulT]
      omega
    · simpa [mpD, readT] using hq
  · simp
    refine ⟨mulT m true, by simp [mpD, mulT], by rw [det_mul]; exact h0, ?_, ?_⟩
    · simp [msum, mulT]
      omega
    · simpa [mpD, readT] using hq
def F_road_of : DF := fun ds q => ∃ w : List Bool, ds = [frD (numB w)] ∧ (numB w).1 ≤ 1000000 ∧ (numB w).2 ≤ 1000000 ∧ q (Wd w) .none
theorem pl_road_of : PL_road_of F_road_of F_check_fraction := by
  intro ds q a _ h
  obtain ⟨w, rfl, h1, h2, hq⟩ := h
  have p := num_pos w
  have g := num_gcd w
  simp [t_road_of]
  refine ⟨numB w, rfl, p.1, p.2, g, ?_⟩
  simp [frD]
  intro p0
  refine while_at (α := List (List Bool) × List Bool × Option Cell) (fun z => [some (.val (frD (numB w))), some (.own p0 (.list (z.1.map Wd))), some (.val (.int (numB z.2.1).1)), some (.val (.int (numB z.2.1).2)), z.2.2])
    (fun z => z.1.flatten ++ z.2.1 = w ∧ z.1.length + z.2.1.length ≤ 2000000 ∧ (numB z.2.1).1 ≤ 1000000 ∧ (numB z.2.1).2 ≤ 1000000) (fun z => z.2.1.length) (fun z => decide ((numB z.2.1).1 ≠ (numB z.2.1).2)) (x0 := ([], w, none)) ⟨by simp, ?_, h1, h2⟩ ?_ ?_ ?_
  · have := num_len w
    simp
    omega
  · rintro ⟨ws, u, x4⟩ _ K hK
    simp at hK ⊢
    exact hK
  · rintro ⟨ws, u, x4⟩ ⟨e0, l0, b1, b2⟩ ht N hN
    simp at e0 l0 b1 b2 ht
    have pu := num_pos u
    simp
    have turn : ∀ (x y : Nat) (_ : 0 < x) (_ : 0 < y) (_ : x ≤ 1000000) (_ : y ≤ 1000000) (_ : y < x), ∃ k : Nat, ((x : Int) - 1) / (y : Int) = (k : Nat) ∧ 0 < k ∧ k * y < x ∧ k ≤ 1000000 ∧ CDivW ((x : Int) - 1) (y : Int) ∧ CMulA (k : Int) (y : Int) ∧ (x : Int) - (k : Int) * (y : Int) = ((x - k * y : Nat) : Int) := by
      intro x y hx hy bx bY lt
      have e : ((x : Int) - 1) / (y : Int) = (((x - 1) / y : Nat) : Int) := by
        rw [Int.natCast_ediv, Int.natCast_sub (by omega)]
        rfl
      have k2 : (x - 1) / y * y ≤ x - 1 := Nat.div_mul_le_self ..
      have k3 : (x - 1) / y ≤ x - 1 := Nat.div_le_self ..
      refine ⟨(x - 1) / y, e, Nat.div_pos (by omega) hy, by omega, by omega, div_small hy (by omega), mul_small (by omega), ?_⟩
      rw [Int.natCast_sub (by omega), Int.natCast_mul]
    have flat1 : ∀ (k : Nat) (t : Bool) (u' : List Bool), u = List.replicate k t ++ u' → 0 < k → (ws ++ [List.replicate k t]).flatten ++ u' = w ∧ (ws ++ [List.replicate k t]).length + u'.length ≤ 2000000 ∧ u'.length < u.length := by
      intro k t u' e hk
      refine ⟨?_, ?_, ?_⟩
      · rw [← e0, e]
        simp
      · rw [e] at l0
        simp at l0 ⊢
        omega
      · rw [e]
        simp
        omega
    by_cases c : (numB u).2 < (numB u).1
    · rw [if_pos c]
      obtain ⟨k, ek, k0, k1, k2, k3, k4, k5⟩ := turn _ _ pu.1 pu.2 b1 b2 c
      obtain ⟨u', eu, en⟩ := num_run k u _ _ rfl k1
      obtain ⟨f1, f2, f3⟩ := flat1 k true u' eu k0
      have := hN (ws ++ [List.replicate k true], u', some (.val (.int k))) ⟨f1, f2, by rw [en]; exact Nat.le_trans (Nat.sub_le ..) b1, by rw [en]; exact b2⟩ f3
      rw [en] at this
      simp at this
      rw [ek, repW, k5]
      exact ⟨k3, by omega, by omega, by omega, k4, this⟩
    · rw [if_neg c]
      obtain ⟨k, ek, k0, k1, k2, k3, k4, k5⟩ := turn _ _ pu.2 pu.1 b2 b1 (by omega)
      obtain ⟨u', eu, en⟩ := num_runL k u _ _ rfl k1
      obtain ⟨f1, f2, f3⟩ := flat1 k false u' eu k0
      have := hN (ws ++ [List.replicate k false], u', some (.val (.int k))) ⟨f1, f2, by rw [en]; exact b1, by rw [en]; exact Nat.le_trans (Nat.sub_le ..) b2⟩ f3
      rw [en] at this
      simp at this
      rw [ek, repW, k5]
      exact ⟨k3, by omega, by omega, by omega, k4, this⟩
  · rintro ⟨ws, u, x4⟩ ⟨e0, l0, b1, b2⟩ ht
    simp at e0 l0 b1 b2 ht
    have e : u = [] := by
      have pu := num_pos u
      have gu := num_gcd u
      rw [ht, Nat.gcd_self] at gu
      have := num_len u
      exact List.eq_nil_of_length_eq_zero (by omega)
    subst e
    simp at e0
    simp
    refine ⟨?_, ?_⟩
    · have l := num_len w
      rw [← e0, List.length_flatten] at l
      rw [e0] at l
      omega
    · rw [e0]
      exact hq
theorem keyBT_mp (a b : Mp) : keyBT (mpD a) (mpD b) = decide (a = b) := by
  rw [Bool.eq_iff_iff]
  cases a
  cases b
  simp [mpD, keyBT, keysEq, keyB]
def mvT (v : Mv) : PyData := .tuple [Wd v.1, .int v.2]
def pairD (p : Mv × Mv) : PyData := .list [mvT p.1, mvT p.2]
def F_gone_through : DF := fun ds q => ∃ m : Mp, ds = [mpD m] ∧ det m ≠ 0 ∧ (det m).natAbs ≤ 60 ∧ msum m ≤ 100000 ∧ q (.tuple [Wd (leftOver m).1, .list ((goneOf m).1.map mpD), .list ((goneOf m).2.map pairD)]) .none
theorem bound_le {D : Int} (h : D.natAbs ≤ 60) : goneBound D ≤ 13845841 := by
  unfold goneBound
  have a : D.natAbs + 1 ≤ 61 := by omega
  have b := Nat.mul_le_mul a a
  have c := Nat.mul_le_mul b a
  exact Nat.mul_le_mul c a
theorem pl_gone_through : PL_gone_through F_gone_through F_left_over F_read_turn := by
  intro ds q a _ h
  obtain ⟨m, rfl, h0, h1, h2, hq⟩ := h
  have hb := bound_le h1
  simp [t_gone_through]
  refine ⟨m, rfl, h0, by omega, ?_⟩
  simp [mpD]
  refine ⟨rfl, fun p3 p4 p5 => ?_⟩
  refine while_at (α := (List Mp × List (Mv × Mv)) × List (Option Cell))
    (fun z => [some (.val (mpD m)), some (.val (Wd (leftOver m).1)), some (.val (mpD (leftOver m).2)), some (.own p3 (.list (z.1.1.map mpD))), some (.own p4 (.dict ((.none, .none) :: numG mpD 0 z.1.1))), some (.own p5 (.list (z.1.2.map pairD)))] ++ z.2)
    (fun z => z.2.length = 4 ∧ goneInv (det m) z.1.1 z.1.2 ∧ ∃ n, goneGo n z.1.1 z.1.2 = goneOf m ∧ goneBound (det m) < n + z.1.2.length)
    (fun z => goneBound (det m) + 1 - z.1.2.length) (fun z => decide (z.1.2.length < z.1.1.length)) (x0 := (([(leftOver m).2], []), [none, none, none, none])) ?_ ?_ ?_ ?_
  · refine ⟨rfl, ⟨⟨by simp, fun x hx => ?_⟩, by simp, fun i x v hx hv => by simp at hv⟩, goneBound (det m) + 1, rfl, by simp⟩
    simp at hx
    subst hx
    exact ⟨left_red h0, left_det m⟩
  · rintro ⟨⟨f, ms⟩, cs⟩ ⟨lc, iv, n, e, ln⟩ K hK
    simp at hK ⊢
    exact hK
  · rintro ⟨⟨f, ms⟩, cs⟩ ⟨lc, iv, n, e, ln⟩ ht N hN
    simp at lc iv e ln ht hN
    obtain ⟨m0, hm0⟩ : ∃ m0, f[ms.length]? = some m0 := ⟨_, List.getElem?_eq_getElem ht⟩
    obtain ⟨c0, c1, c2, c3, rfl⟩ : ∃ c0 c1 c2 c3, cs = [c0, c1, c2, c3] := by
      match cs, lc with
      | [c0, c1, c2, c3], _ => exact ⟨_, _, _, _, rfl⟩
    have sh := iv.1.short h0
    have d0 : det m0 = det m := (iv.1.2 m0 (List.mem_of_getElem? hm0)).2
    have sm := red_small (iv.1.2 m0 (List.mem_of_getElem? hm0)).1 (by rw [d0]; exact h0)
    rw [d0] at sm
    have hb' : f.length ≤ goneBound (det m) := sh
    simp [-e_forGo1]
    intro p6
    refine for_at (α := Bool) (β := (List Mp × List Mv) × List (Option Cell)) (fun t => Wd [t])
      (fun b => [some (.val (mpD m)), some (.val (Wd (leftOver m).1)), some (.val (mpD (leftOver m).2)), some (.own p3 (.list (b.1.1.map mpD))), some (.own p4 (.dict ((.none, .none) :: numG mpD 0 b.1.1))), some (.own p5 (.list (ms.map pairD))), some (.own p6 (.list (b.1.2.map mvT)))] ++ b.2)
      (fun r b => b.2.length = 3 ∧ f <+: b.1.1 ∧ b.1.1.length + r.length ≤ f.length + 2 ∧ ((r = [false, true] ∧ b.1 = (f, [])) ∨ (r = [true] ∧ b.1 = (addM f (readT m0 false).2, [((readT m0 false).1, (addM f (readT m0 false).2).idxOf (readT m0 false).2)])) ∨ (r = [] ∧ b.1 = ((goneStep f m0).1, [(goneStep f m0).2.1, (goneStep f m0).2.2])))) ?_ ?_ [false, true] ((f, []), [c1, c2, c3]) ⟨rfl, List.prefix_refl _, by simp, .inl ⟨rfl, rfl⟩⟩
    · rintro ⟨⟨f', pr⟩, cs'⟩ ⟨lc', pre, _, hI⟩
      simp at lc' hI
      obtain ⟨rfl, rfl⟩ := hI
      obtain ⟨c1', c2', c3', rfl⟩ : ∃ c1 c2 c3, cs' = [c1, c2, c3] := by
        match cs', lc' with
        | [c1, c2, c3], _ => exact ⟨_, _, _, rfl⟩
      have st := iv.step h0 hm0
      have sh2 := st.1.short h0
      have ml := st.2.1
      simp at ml
      have hb2 : (goneStep f m0).1.length ≤ goneBound (det m) := sh2
      simp
      refine ⟨by omega, ?_⟩
      have := hN (goneStep f m0).1 (ms ++ [(goneStep f m0).2]) [some (.val (.list [mvT (goneStep f m0).2.1, mvT (goneStep f m0).2.2])), c1', c2', c3'] rfl st (n - 1) (by
        rw [← e]
        cases n with
        | zero => omega
        | succ n =>
          show _ = goneGo (n + 1) f ms
          rw [goneGo, hm0]
          rfl) (by simp; omega) (by simp; omega)
      simpa [pairD] using this
    · rintro t r ⟨⟨f', pr⟩, cs'⟩ ⟨lc', pre, ll, hI⟩ M hM
      simp at lc' pre ll
      have l2 := pre.length_le
      have pl : pr.length ≤ 1 := by
        rcases hI with ⟨_, h⟩ | ⟨_, h⟩ | ⟨h, _⟩
        · cases h; simp
        · cases h; simp
        · cases h
      obtain ⟨c1', c2', c3', rfl⟩ : ∃ c1 c2 c3, cs' = [c1, c2, c3] := by
        match cs', lc' with
        | [c1, c2, c3], _ => exact ⟨_, _, _, rfl⟩
      have hm1 := pre_get pre hm0
      simp [hm1]
      refine ⟨m0, t, rfl, by rw [d0]; exact h0, by simp only [msum]; omega, ?_⟩
      simp
      have kt : isKeyT (mpD (readT m0 t).2) = true := rfl
      have len0 : (numG mpD 0 f').length = f'.length := numG_len ..
      have fin := hM ((addM f' (readT m0 t).2, pr ++ [((readT m0 t).1, (addM f' (readT m0 t).2).idxOf (readT m0 t).2)]), [some (.val (Wd [t])), some (.val (Wd (readT m0 t).1)), some (.val (mpD (readT m0 t).2))]) ⟨rfl, pre.trans (addM_pre _ _), ?_, ?_⟩
      · by_cases c : (readT m0 t).2 ∈ f'
        · rw [numT_get keyBT_mp, if_pos c]
          have ea : addM f' (readT m0 t).2 = f' := if_pos c
          rw [ea] at fin
          simp [kt]
          refine ⟨by omega, ?_⟩
          simpa [mvT] using fin
        · rw [numT_get keyBT_mp, if_neg c]
          have ea : addM f' (readT m0 t).2 = f' ++ [(readT m0 t).2] := if_neg c
          rw [ea] at fin
          simp [kt, len0]
          rw [numT_put keyBT_mp c, numT_get keyBT_mp, if_pos (by simp)]
          simp
          refine ⟨by omega, by omega, ?_⟩
          simpa [mvT, numT_put keyBT_mp c] using fin
      · unfold addM
        split
        · simp; omega
        · simp; omega
      · rcases hI with ⟨e1, e2⟩ | ⟨e1, e2⟩ | ⟨e1, e2⟩
        · cases e1
          cases e2
          exact .inr (.inl ⟨rfl, rfl⟩)
        · cases e1
          cases e2
          exact .inr (.inr ⟨rfl, rfl⟩)
        · cases e1
  · rintro ⟨⟨f, ms⟩, cs⟩ ⟨lc, iv, n, e, ln⟩ ht
    simp at lc iv e ln ht
    have l2 := iv.2.1
    have fin : goneOf m = (f, ms) := by
      rw [← e]
      cases n with
      | zero => rfl
      | succ n =>
        unfold goneGo
        rw [List.getElem?_eq_none ht]
    rw [fin] at hq
    simpa using hq
/-- the machine of a map -/
def machRows (m : Mp) : List Row := (List.zipWith (fun (x : Mp) (v : Mv × Mv) => ((v.1, v.2, roadV (ap x (1, 1))) : Row)) (goneOf m).1 (goneOf m).2)
def F_machine_of : DF := fun ds q => ∃ m : Mp, ds = [mpD m] ∧ det m ≠ 0 ∧ (det m).natAbs ≤ 60 ∧ msum m ≤ 100000 ∧ Nat.gcd (Nat.gcd (Nat.gcd m.a m.b) m.c) m.d = 1 ∧ q (macD (leftOver m).1 (machRows m)) .none
theorem zip2_at {α β : Type} (f : α → PyData) (g : β → PyData) : ∀ (xs : List α) (ys : List β), zip2D (xs.map f) (ys.map g) = (xs.zip ys).map fun p => .tuple [f p.1, g p.2]
  | [], _ => by simp [zip2D]
  | _ :: _, [] => by simp [zip2D]
  | x :: xs, y :: ys => by
    have ih := zip2_at f g xs ys
    unfold zip2D at ih ⊢
    simp [ih]
theorem pl_machine_of : PL_machine_of F_machine_of F_check_map F_gone_through F_road_of F_image := by
  intro ds q a _ h
  obtain ⟨m, rfl, h0, h1, h2, hg, hq⟩ := h
  obtain ⟨iv, hl, _⟩ := goneOf_ok h0
  have sh := iv.1.short h0
  have hb := bound_le h1
  have hb' : (goneOf m).1.length ≤ goneBound (det m) := sh
  simp [t_machine_of]
  refine ⟨m, rfl, h0, hg, by omega, ?_⟩
  simp
  refine ⟨m, rfl, h0, h1, h2, ?_⟩
  simp [plainC, plain1]
  refine lc_at mpD (fun x => Wd (roadV (ap x (1, 1)))) (goneOf m).1 rfl ?_ (by omega) ?_
  · intro x hx Q1 Q2 hQ
    have d0 : det x = det m := (iv.1.2 x hx).2
    have sm := red_small (iv.1.2 x hx).1 (by rw [d0]; exact h0)
    rw [d0] at sm
    have pp := ap_pos (m := x) (v := (1, 1)) (by rw [d0]; exact h0) (by simp) (by simp)
    have ru := roadV_num pp.1 pp.2
    have a1 : (ap x (1, 1)).1 = x.a + x.b := by simp [ap]
    have a2 : (ap x (1, 1)).2 = x.c + x.d := by simp [ap]
    have lw : (lowest (ap x (1, 1))).1 ≤ (ap x (1, 1)).1 ∧ (lowest (ap x (1, 1))).2 ≤ (ap x (1, 1)).2 := ⟨Nat.div_le_self .., Nat.div_le_self ..⟩
    simp [wipeD]
    refine ⟨x, (1, 1), rfl, by simp only [msum]; omega, pp.1, by omega, ?_⟩
    simp
    refine ⟨roadV (ap x (1, 1)), by rw [ru], by rw [ru]; omega, by rw [ru]; omega, ?_⟩
    simp
    exact hQ _ rfl
  · simp
    rw [zip2_at]
    refine lc_at _ (fun p : (Mv × Mv) × Mp => rowD (p.1.1, p.1.2, roadV (ap p.2 (1, 1)))) _ rfl ?_ (by simp; omega) ?_
    · rintro ⟨⟨v0, v1⟩, x⟩ hx Q1 Q2 hQ
      simp [wipeD, pairD]
      simpa [rowD, mvD, mvT] using hQ _ rfl
    · simp
      have e : (((goneOf m).2.zip (goneOf m).1).map fun p : (Mv × Mv) × Mp => rowD (p.1.1, p.1.2, roadV (ap p.2 (1, 1)))) = (machRows m).map rowD := by
        unfold machRows
        rw [List.zip_eq_zipWith, List.map_zipWith, List.map_zipWith, List.zipWith_comm]
      rw [e]
      exact hq
end DL
namespace DL
open PySem PySem.Spec PyProof.Rows L2
/-! ### what a map's machine writes -/
theorem mach_len {m : Mp} (h : det m ≠ 0) : (machRows m).length = (goneOf m).1.length := by
  obtain ⟨_, hl, _⟩ := goneOf_ok h
  unfold machRows
  rw [List.length_zipWith, hl, Nat.min_self]
theorem mach_row {m : Mp} (h : det m ≠ 0) {i : Nat} {x : Mp} (hx : (goneOf m).1[i]? = some x) :
    ∃ v : Mv × Mv, (machRows m)[i]? = some (v.1, v.2, roadV (ap x (1, 1))) ∧ goodMv (goneOf m).1 x false v.1 ∧ goodMv (goneOf m).1 x true v.2 := by
  obtain ⟨iv, hl, _⟩ := goneOf_ok h
  have li := (List.getElem?_eq_some_iff.mp hx).1
  have hv : (goneOf m).2[i]? = some (goneOf m).2[i] := List.getElem?_eq_getElem (by omega)
  refine ⟨(goneOf m).2[i], ?_, iv.2.2 i x _ hx hv⟩
  unfold machRows
  rw [List.getElem?_zipWith, hx, hv]
theorem left_len (m : Mp) : (leftOver m).1.length ≤ msum m + 1 := lo_len _ _
theorem mach_ok {m : Mp} (h : det m ≠ 0) (h1 : (det m).natAbs ≤ 60) (h2 : msum m ≤ 100000) : macOk (leftOver m).1 (machRows m) := by
  obtain ⟨iv, hl, hz⟩ := goneOf_ok h
  have l0 := (List.getElem?_eq_some_iff.mp hz).1
  have ll := left_len m
  refine ⟨by omega, by rw [mach_len h]; exact l0, fun r hr => ?_⟩
  obtain ⟨i, hi⟩ := List.getElem?_of_mem hr
  have li := (List.getElem?_eq_some_iff.mp hi).1
  rw [mach_len h] at li
  have hx : (goneOf m).1[i]? = some (goneOf m).1[i] := List.getElem?_eq_getElem li
  obtain ⟨v, e, g0, g1⟩ := mach_row h hx
  rw [hi] at e
  cases e
  generalize hxx : (goneOf m).1[i] = x at *
  have xm : x ∈ (goneOf m).1 := List.mem_of_getElem? hx
  have d0 : det x = det m := (iv.1.2 x xm).2
  have sm := red_small (iv.1.2 x xm).1 (by rw [d0]; exact h)
  rw [d0] at sm
  have ms : msum x ≤ 240 := by simp only [msum]; omega
  have mv : ∀ (t : Bool) (v : Mv), goodMv (goneOf m).1 x t v → mvOk (machRows m).length v := fun t v g => by
    refine ⟨?_, ?_⟩
    · rw [g.1]
      have := left_len (mulT x t)
      have : msum (mulT x t) ≤ 480 := by
        simp only [msum] at ms
        cases t <;> simp [msum, mulT] <;> omega
      unfold readT
      omega
    · rw [mach_len h]
      exact (List.getElem?_eq_some_iff.mp g.2).1
  refine ⟨mv _ _ g0, mv _ _ g1, ?_⟩
  have pp := ap_pos (m := x) (v := (1, 1)) (by rw [d0]; exact h) (by simp) (by simp)
  have nl := num_len (roadV (ap x (1, 1)))
  rw [roadV_num pp.1 pp.2] at nl
  have a1 : (lowest (ap x (1, 1))).1 ≤ x.a + x.b := Nat.le_trans (Nat.div_le_self ..) (by simp [ap])
  have a2 : (lowest (ap x (1, 1))).2 ≤ x.c + x.d := Nat.le_trans (Nat.div_le_self ..) (by simp [ap])
  simp only [msum] at ms
  show (roadV (ap x (1, 1))).length ≤ _
  omega
theorem mach_walk {m : Mp} (h : det m ≠ 0) : ∀ (w : List Bool) (s : Nat) (x : Mp), (goneOf m).1[s]? = some x →
    ∃ y, (goneOf m).1[(walk (machRows m) s w).2]? = some y ∧ mulW x w = preW (walk (machRows m) s w).1 y
  | [], s, x, hx => ⟨x, hx, rfl⟩
  | t :: w, s, x, hx => by
    obtain ⟨v, e, g0, g1⟩ := mach_row h hx
    have g : goodMv (goneOf m).1 x t (mvOf (v.1, v.2, roadV (ap x (1, 1))) t) := by
      cases t
      · exact g0
      · exact g1
    obtain ⟨y, hy, ey⟩ := mach_walk h w _ _ g.2
    refine ⟨y, ?_, ?_⟩
    · unfold walk
      rw [e]
      exact hy
    · unfold walk
      rw [e]
      show mulW (mulT x t) w = preW (_ ++ _) y
      rw [preW_app, ← ey, ← mulW_preW, g.1, read_pre]
theorem mach_run {m : Mp} (h : det m ≠ 0) (w : List Bool) : runM (leftOver m).1 (machRows m) w = roadV (ap m (numB w)) := by
  obtain ⟨iv, hl, hz⟩ := goneOf_ok h
  obtain ⟨y, hy, ey⟩ := mach_walk h w 0 _ hz
  obtain ⟨v, er, _, _⟩ := mach_row h hy
  have d0 : det y = det m := (iv.1.2 y (List.mem_of_getElem? hy)).2
  have pp := ap_pos (m := y) (v := (1, 1)) (by rw [d0]; exact h) (by simp) (by simp)
  obtain ⟨u, g, eu, g0, es⟩ := lowest_num pp.1 pp.2
  have e1 : roadV (ap y (1, 1)) = u := by rw [es, roadV_scale g0]
  have e2 : runM (leftOver m).1 (machRows m) w = (leftOver m).1 ++ (walk (machRows m) 0 w).1 ++ u := by
    unfold runM
    rw [er, ← e1]
    rfl
  have e3 : ap m (numB w) = scale g (numB ((leftOver m).1 ++ (walk (machRows m) 0 w).1 ++ u)) := by
    show ap m (stepW w (1, 1)) = _
    rw [← ap_mulW, ← left_pre m, mulW_preW]
    show ap (preW (leftOver m).1 (mulW (leftOver m).2 w)) (1, 1) = _
    rw [ey, ← preW_app, ap_preW, es, stepW_scale]
    rw [List.append_assoc] 
    show scale g (stepW _ (stepW u (1, 1))) = scale g (stepW _ (1, 1))
    rw [← stepW_app, left_pre, List.append_assoc]
  rw [e2, e3, roadV_scale g0]
/-- what is written is not long -/
theorem roadV_len {v : Nat × Nat} (h1 : 0 < v.1) (h2 : 0 < v.2) : (roadV v).length ≤ v.1 + v.2 := by
  have := num_len (roadV v)
  rw [roadV_num h1 h2] at this
  have a1 : (lowest v).1 ≤ v.1 := Nat.div_le_self ..
  have a2 : (lowest v).2 ≤ v.2 := Nat.div_le_self ..
  omega
end DL
namespace DL
open PySem PySem.Spec PyProof.Rows L2
/-! ### all roads in their order -/
def nth : Nat → List Bool
  | 0 => []
  | i + 1 => nth (i / 2) ++ [decide (i % 2 = 1)]
decreasing_by omega
theorem nth0 : nth 0 = [] := by rw [nth]
theorem nth1 (i : Nat) : nth (2 * i + 1) = nth i ++ [false] := by
  rw [nth, show 2 * i / 2 = i by omega, decide_eq_false (show ¬ 2 * i % 2 = 1 by omega)]
theorem nth2 (i : Nat) : nth (2 * i + 2) = nth i ++ [true] := by
  rw [nth, show (2 * i + 1) / 2 = i by omega, decide_eq_true (show (2 * i + 1) % 2 = 1 by omega)]
theorem nth_len : ∀ (n i : Nat), 2 ^ n ≤ i + 1 → i + 1 < 2 ^ (n + 1) → (nth i).length = n
  | 0, i, h1, h2 => by
    obtain rfl : i = 0 := by omega
    rw [nth0]; rfl
  | n + 1, i, h1, h2 => by
    have e1 : 2 ^ (n + 1) = 2 * 2 ^ n := by rw [Nat.pow_succ]; omega
    have e2 : 2 ^ (n + 1 + 1) = 2 * 2 ^ (n + 1) := by rw [Nat.pow_succ]; omega
    have hp : 0 < 2 ^ n := Nat.pow_pos (by decide)
    obtain ⟨j, hj⟩ : ∃ j, i = 2 * j + 1 ∨ i = 2 * j + 2 := ⟨(i - 1) / 2, by omega⟩
    have ih := nth_len n j (by omega) (by omega)
    rcases hj with rfl | rfl
    · rw [nth1, List.length_append, ih]; rfl
    · rw [nth2, List.length_append, ih]; rfl
theorem nth_short (n i : Nat) (h : i + 1 < 2 ^ n) : (nth i).length < n := by
  induction n generalizing i with
  | zero => simp at h
  | succ n ih =>
    by_cases lt : i + 1 < 2 ^ n
    · exact Nat.lt_succ_of_lt (ih i lt)
    · rw [nth_len n i (by omega) h]; omega
def roadsTo (n : Nat) : List (List Bool) := (List.range (2 ^ (n + 1) - 1)).map nth
def F_roads_to : DF := fun ds q => ∃ n : Nat, ds = [.int n] ∧ n ≤ 20 ∧ q (.list ((roadsTo n).map Wd)) .none
theorem pl_roads_to : PL_roads_to F_roads_to := by
  intro ds q _ _ h
  obtain ⟨n, rfl, hn, hq⟩ := h
  have hp : 0 < 2 ^ n := Nat.pow_pos (by decide)
  have h20 : 2 ^ n ≤ 2 ^ 20 := Nat.pow_le_pow_right (by decide) hn
  refine ⟨Nat.le_of_ble_eq_true rfl, fun p => ?_⟩
  refine while_of (fun m ρ => ∃ at_ : Nat, at_ + 1 ≤ 2 ^ n ∧ m = 2 ^ n - at_ ∧ ρ = [some (.val (.int n)), some (.own p (.list ((List.range (2 * at_ + 1)).map fun i => Wd (nth i)))), some (.val (.int at_))]) ⟨2 ^ n, 0, by omega, rfl, ?_⟩ ?_
  · show ([some (.val (.int n)), some (.own p (.list [Wd []])), some (.val (.int 0))] : DEnv) = [some (.val (.int n)), some (.own p (.list [Wd (nth 0)])), some (.val (.int 0))]
    rw [nth0]
  · rintro m ρ ⟨k, hk, rfl, rfl⟩
    have hat : atI ((List.range (2 * k + 1)).map fun i => Wd (nth i)) (k : Int) = some (Wd (nth k)) := atI_nat (by
      rw [List.getElem?_map, List.getElem?_range (by omega)]; rfl)
    have hl : (nth k).length ≤ n := by
      by_cases e : k + 1 = 2 ^ n
      · rw [nth_len n k (by omega) (by rw [Nat.pow_succ]; omega)]; exact Nat.le_refl _
      · exact Nat.le_of_lt (nth_short n k (by omega))
    refine ⟨decide (k + 1 < 2 ^ n), fun K hK => ?_, fun hc N hN => ?_, fun hc => ?_⟩
    · refine ⟨_, hat, ?_, trivial, ?_⟩
      · show (enc _).length ≤ _
        rw [enc_len]; omega
      · show (match PyData.bool (decide (((enc (nth k)).length : Int) < n)) with | .bool b => K b _ | _ => False)
        have e : decide (((enc (nth k)).length : Int) < n) = decide (k + 1 < 2 ^ n) := by
          rw [enc_len]
          refine decide_eq_decide.mpr ⟨fun h => ?_, fun h => ?_⟩
          · refine Classical.byContradiction fun z => ?_
            have := nth_len n k (by omega) (by rw [Nat.pow_succ]; omega)
            omega
          · have := nth_short n k h
            omega
        rw [e]
        exact hK
    · have lt : k + 1 < 2 ^ n := of_decide_eq_true hc
      refine ⟨_, hat, ?_, _, hat, ?_, ?_, ?_, ?_⟩
      · show (enc _).length + 1 ≤ _
        rw [enc_len]; omega
      · show (enc _).length + 1 ≤ _
        rw [enc_len]; omega
      · exact Nat.le_of_ble_eq_true rfl
      · rw [List.length_map, List.length_range]
        show 2 * k + 1 + 2 ≤ _
        omega
      · refine hN _ (2 ^ n - (k + 1)) (by omega) ⟨k + 1, by omega, rfl, ?_⟩
        have e : (List.range (2 * (k + 1) + 1)).map (fun i => Wd (nth i)) = ((List.range (2 * k + 1)).map fun i => Wd (nth i)) ++ [S (L (mk (enc (nth k))) ++ L (mk [76])), S (L (mk (enc (nth k))) ++ L (mk [82]))] := by
          rw [show 2 * (k + 1) + 1 = 2 * k + 1 + 1 + 1 by omega, List.range_succ, List.range_succ, List.map_append, List.map_append, List.append_assoc]
          congr 1
          show [Wd (nth (2 * k + 1)), Wd (nth (2 * k + 2))] = _
          rw [nth1, nth2]
          unfold Wd
          rw [enc_app, enc_app]
          rfl
        rw [e]
        rfl
    · have e : k + 1 = 2 ^ n := by have := of_decide_eq_false hc; omega
      have e2 : 2 * k + 1 = 2 ^ (n + 1) - 1 := by rw [Nat.pow_succ]; omega
      have e3 : ((List.range (2 * k + 1)).map fun i => Wd (nth i)) = (roadsTo n).map Wd := by
        rw [e2, roadsTo, List.map_map]; rfl
      rw [e3]
      exact hq
end DL
namespace DL
open PySem PySem.Spec PyProof.Rows L2
theorem roads_len {n : Nat} {w : List Bool} (h : w ∈ roadsTo n) : w.length ≤ n := by
  unfold roadsTo at h
  obtain ⟨i, hi, rfl⟩ := List.mem_map.mp h
  have hi := List.mem_range.mp hi
  have := nth_short (n + 1) i (by have : 0 < 2 ^ (n + 1) := Nat.pow_pos (by decide); omega)
  omega
theorem roads_many (n : Nat) : (roadsTo n).length = 2 ^ (n + 1) - 1 := by simp [roadsTo]
def F_table_of : DF := fun ds q => ∃ (f : List Bool) (rows : List Row) (n : Nat), ds = [macD f rows, .int n] ∧ macOk f rows ∧ n ≤ 20 ∧ (∀ w : List Bool, w.length ≤ n → (runM f rows w).length ≤ 16777216) ∧ q (.list ((roadsTo n).map fun w => Wd (runM f rows w))) .none
theorem pl_table_of : PL_table_of F_table_of F_check_machine F_check_number F_roads_to F_run := by
  intro ds q a _ h
  obtain ⟨f, rows, n, rfl, ok, hn, hl, hq⟩ := h
  have pw : 2 ^ (n + 1) ≤ 2 ^ 21 := Nat.pow_le_pow_right (by decide) (by omega)
  simp [t_table_of]
  refine ⟨f, rows, rfl, ok, ?_⟩
  simp
  refine ⟨(n : Nat), 0, rfl, by omega, ?_⟩
  simp
  refine ⟨n, rfl, hn, ?_⟩
  simp [plainC, plain1]
  refine lc_at Wd (fun w => Wd (runM f rows w)) (roadsTo n) rfl ?_ (by rw [roads_many]; omega) ?_
  · intro w hw Q1 Q2 hQ
    have lw := roads_len hw
    simp [wipeD]
    refine ⟨f, rows, w, rfl, ok, by omega, hl w lw, ?_⟩
    simp
    exact hQ _ rfl
  · exact hq
end DL
namespace DL
open PySem PySem.Spec PyProof.Rows L2
/-! ### the law's draws: any ones -/
def purD (g s c : Int) : PyData := .list [.int g, .int s, .int c]
/-- a purse out of which at most n things were drawn -/
def PuOk (n : Nat) (d : PyData) : Prop := ∃ g s c : Int, d = purD g s c ∧ 0 ≤ g ∧ 0 ≤ s ∧ s < 1000000000000000000000007 ∧ 0 ≤ c ∧ c ≤ n
theorem PuOk.mono {n m : Nat} {d : PyData} (h : PuOk n d) (l : n ≤ m) : PuOk m d := by
  obtain ⟨g, s, c, rfl, h1, h2, h3, h4, h5⟩ := h
  exact ⟨g, s, c, rfl, h1, h2, h3, h4, by omega⟩
def F_law_coin : DF := fun ds q => ∃ (d : PyData) (n : Nat) (many : Nat), ds = [d, .int many] ∧ PuOk n d ∧ n < 1000000000 ∧ 0 < many ∧ many < 1000000000 ∧ ∀ (k : Nat) (d' : PyData), k < many → PuOk (n + 1) d' → q (.int k) d'
theorem log2_small {n k : Nat} (h : n < 2 ^ (k + 1)) : n.log2 ≤ k := by
  have := PySem.Flt.log2_lt_of (n := n) (k := k + 1) (by omega) h
  omega
theorem pl_law_coin : PL_law_coin F_law_coin := by
  intro ds q a _ h
  obtain ⟨d, n, many, rfl, ⟨g, s, c, rfl, h1, h2, h3, h4, h5⟩, hn, hm, hm2, hq⟩ := h
  refine seq_mid [some (.own a (purD g s c)), some (.val (.int many)), none, none] (fun N hN => if_of (decide (0 < g)) (fun K hK => ⟨.int g, rfl, trivial, hK⟩) (fun z => ?_) fun z => ?_) ?_
  · have hmz : (0 : Int) < (many : Nat) := by omega
    have hdiv : CDivW g (many : Nat) := ⟨hmz, Nat.lt_of_le_of_lt (log2_small (k := 30) (by simp only [Int.natAbs_natCast]; omega)) (by decide)⟩
    refine ⟨.int g, rfl, hmz, .int g, rfl, hdiv, 0, rfl, ?_⟩
    have e1 : ((g % (many : Nat)).toNat : Int) = g % (many : Nat) := Int.toNat_of_nonneg (Int.emod_nonneg _ (by omega))
    have lt1 : g % (many : Nat) < many := Int.emod_lt_of_pos _ hmz
    have := hq (g % (many : Nat)).toNat (purD (g / (many : Nat)) s c) (by omega) ⟨_, s, c, rfl, Int.ediv_nonneg h1 (by omega), h2, h3, h4, by omega⟩
    rw [e1] at this
    exact ⟨_, rfl, this⟩
  · exact hN
  · refine seq_mid [some (.own a (purD g s (c + 1))), some (.val (.int many)), none, none] (fun N hN => ⟨.int c, rfl, 2, rfl, hN⟩) ?_
    have pw : ∀ (x : Int) (e : Int), 0 ≤ e → e ≤ 3 → 0 ≤ x → x < 2 ^ 200 → CPowW x e := fun x e he he3 h0 h1 => by
      refine ⟨he, ?_⟩
      have : x.natAbs.log2 ≤ 200 := log2_small (k := 200) (by
        have : (x.natAbs : Int) < (2 : Int) ^ 201 := by
          rw [Int.natAbs_of_nonneg h0]
          refine Int.lt_trans h1 (by decide)
        exact_mod_cast this)
      have h3 : ((x.natAbs.log2 + 1 : Nat) : Int) ≤ 201 := by omega
      have h4 : ((x.natAbs.log2 + 1 : Nat) : Int) * e ≤ 201 * 3 := Int.mul_le_mul h3 he3 he (by decide)
      omega
    have m1 : (0 : Int) < 10 ^ (25 : Int).toNat + 13 := by decide
    have m2 : (0 : Int) < 10 ^ (24 : Int).toNat + 7 := by decide
    have b1 : (0 : Int) ≤ s + 2038074743 * (c + 1) := by omega
    have b2 : s + 2038074743 * (c + 1) < 2 ^ 200 := Int.lt_trans (show s + 2038074743 * (c + 1) < 10000000000000000000000000 by omega) (by decide)
    have st1 := Int.emod_nonneg ((s + 2038074743 * (c + 1)) ^ (3 : Int).toNat) (Int.ne_of_gt m1)
    have st2 := Int.emod_lt_of_pos ((s + 2038074743 * (c + 1)) ^ (3 : Int).toNat) m1
    refine seq_mid [some (.own a (purD g s (c + 1))), some (.val (.int many)), some (.val (.int ((s + 2038074743 * (c + 1)) ^ (3 : Int).toNat % (10 ^ (25 : Int).toNat + 13)))), none] (fun N hN => ⟨.int s, rfl, .int (c + 1), rfl, .inl (by decide), pw _ 3 (by decide) (by decide) b1 b2, ⟨by decide, by decide +kernel⟩, m1, hN⟩) ?_
    generalize (s + 2038074743 * (c + 1)) ^ (3 : Int).toNat % (10 ^ (25 : Int).toNat + 13) = t1 at st1 st2 ⊢
    have st2' : t1 < 10000000000000000000000013 := by
      have e : (10 : Int) ^ (25 : Int).toNat + 13 = 10000000000000000000000013 := by decide
      rw [e] at st2
      exact st2
    have b3 : (0 : Int) ≤ t1 + 982451653 * (c + 1) := by omega
    have b4 : t1 + 982451653 * (c + 1) < 2 ^ 200 := Int.lt_trans (show t1 + 982451653 * (c + 1) < 100000000000000000000000000 by omega) (by decide)
    have st3 := Int.emod_nonneg ((t1 + 982451653 * (c + 1)) ^ (2 : Int).toNat) (Int.ne_of_gt m2)
    refine seq_mid [some (.own a (purD g s (c + 1))), some (.val (.int many)), some (.val (.int ((t1 + 982451653 * (c + 1)) ^ (2 : Int).toNat % (10 ^ (24 : Int).toNat + 7)))), none] (fun N hN => ⟨.int (c + 1), rfl, .inl (by decide), pw _ 2 (by decide) (by decide) b3 b4, ⟨by decide, by decide +kernel⟩, m2, hN⟩) ?_
    generalize (t1 + 982451653 * (c + 1)) ^ (2 : Int).toNat % (10 ^ (24 : Int).toNat + 7) = t2 at st3 ⊢
    have hmz : (0 : Int) < (many : Nat) := by omega
    refine ⟨⟨by decide, by decide +kernel⟩, hmz, ?_⟩
    have e1 : ((t2 / 1024 % (many : Nat)).toNat : Int) = t2 / 1024 % (many : Nat) := Int.toNat_of_nonneg (Int.emod_nonneg _ (by omega))
    have lt1 : t2 / 1024 % (many : Nat) < many := Int.emod_lt_of_pos _ hmz
    have := hq (t2 / 1024 % (many : Nat)).toNat (purD g s (c + 1)) (by omega) ⟨_, s, c + 1, rfl, h1, h2, h3, by omega, by omega⟩
    rw [e1] at this
    exact ⟨_, rfl, this⟩
def F_law_bk_way : DF := fun ds q => ∃ (d : PyData) (n top : Nat), ds = [d, .int top] ∧ PuOk n d ∧ n + top + 2 < 1000000000 ∧ top < 1000000 ∧ ∀ (w : List Bool) (d' : PyData), w.length ≤ top → PuOk (n + top + 1) d' → q (Wd w) d'
theorem PuOk.pur {n : Nat} {d : PyData} (h : PuOk n d) : ∃ l, d = .list l := by
  obtain ⟨g, s, c, rfl, _⟩ := h
  exact ⟨_, rfl⟩
theorem sg_at {k : Nat} (h : k < 2) : atI (L (mk [76, 82])) ((k : Nat) : Int) = some (sg (decide (k = 1))) := by
  match k, h with
  | 0, _ => rfl
  | 1, _ => rfl
theorem pl_law_bk_way : PL_law_bk_way F_law_bk_way F_law_coin := by
  intro ds q a _ h
  obtain ⟨d, n, top, rfl, hd, hn, ht, hq⟩ := h
  refine ⟨rfl, d, n, top + 1, rfl, hd, by omega, by omega, by omega, fun k d' hk hd' => ?_⟩
  refine ⟨by show (-4611686018427387904 : Int) ≤ (k : Nat); omega, by show ((k : Nat) : Int) < 4611686018427387904; omega, ?_⟩
  refine forGo_inv (fun r ρ => ∃ (i : Nat) (w : List Bool) (d2 : PyData) (x3 : Option Cell), r.length + i = k ∧ w.length = i ∧ PuOk (n + 1 + i) d2 ∧ ρ = [some (.own a d2), some (.val (.int top)), some (.val (Wd w)), x3]) (fun ρ hI => ?_) (fun z r ρ N hN hI => ?_) _ _ ⟨0, [], d', none, by simp, rfl, hd', rfl⟩
  · obtain ⟨i, w, d2, x3, e1, e2, hp, rfl⟩ := hI
    refine ⟨d2, rfl, hq w d2 ?_ (hp.mono ?_)⟩
    · simp at e1; omega
    · simp at e1; omega
  · obtain ⟨i, w, d2, x3, e1, e2, hp, rfl⟩ := hI
    rw [List.length_cons] at e1
    refine ⟨rfl, d2, n + 1 + i, 2, rfl, hp, by omega, by decide, by decide, fun j d3 hj hd3 => ?_⟩
    refine ⟨by decide, _, sg_at hj, ?_, ?_⟩
    · show (enc w).length + 1 ≤ _
      rw [enc_len]; omega
    · refine hN _ ⟨i + 1, w ++ [decide (j = 1)], d3, some (.val z), by omega, by simp [e2], hd3, ?_⟩
      have : S (L (mk (enc w)) ++ L (mk [sg (decide (j = 1))])) = Wd (w ++ [decide (j = 1)]) := by
        rw [L_mk, L_mk]
        unfold Wd
        rw [enc_app]
        rfl
      rw [← this]
      rfl
end DL
namespace DL
open PySem PySem.Spec PyProof.Rows L2
/-- a drawn machine: many states, words of at most top turns -/
def shOk (many top : Nat) (f : List Bool) (rows : List Row) : Prop := f.length ≤ top ∧ rows.length = many ∧ ∀ r ∈ rows, r.1.1.length ≤ top ∧ r.1.2 < many ∧ r.2.1.1.length ≤ top ∧ r.2.1.2 < many ∧ r.2.2.length ≤ top
def F_law_bk_shape : DF := fun ds q => ∃ (d : PyData) (n many top : Nat), ds = [d, .int many, .int top] ∧ PuOk n d ∧ n + (3 * top + 5) * (many + 1) + 5 < 1000000000 ∧ top < 1000000 ∧ many < 1000000 ∧ 0 < many ∧ ∀ (f : List Bool) (rows : List Row) (d' : PyData), shOk many top f rows → PuOk (n + (3 * top + 5) * (many + 1)) d' → q (macD f rows) d'
theorem pl_law_bk_shape : PL_law_bk_shape F_law_bk_shape F_law_bk_way F_law_coin := by
  intro ds q a _ h
  obtain ⟨d, n, many, top, rfl, hd, hn, ht, hm, hm0, hq⟩ := h
  refine ⟨Nat.zero_le _, fun p => ?_⟩
  dsimp only
  refine ⟨by show (-4611686018427387904 : Int) ≤ (many : Nat); omega, by show ((many : Nat) : Int) < 4611686018427387904; omega, ?_⟩
  refine forGo_inv (fun r ρ => ∃ (i : Nat) (rows : List Row) (d2 : PyData) (x4 x5 x6 : Option Cell), r.length + i = many ∧ rows.length = i ∧ (∀ r ∈ rows, r.1.1.length ≤ top ∧ r.1.2 < many ∧ r.2.1.1.length ≤ top ∧ r.2.1.2 < many ∧ r.2.2.length ≤ top) ∧ PuOk (n + (3 * top + 5) * i) d2 ∧
    ρ = [some (.own a d2), some (.val (.int many)), some (.val (.int top)), some (.own p (.list (rows.map rowD))), x4, x5, x6]) (fun ρ hI => ?_) (fun z r ρ N hN hI => ?_) _ _ ⟨0, [], d, none, none, none, by simp, rfl, (fun _ h => nomatch h), hd, rfl⟩
  · obtain ⟨i, rows, d2, x4, x5, x6, e1, e2, hr, hp, rfl⟩ := hI
    have ei : i = many := by simpa using e1
    subst ei
    have es : (3 * top + 5) * (i + 1) = (3 * top + 5) * i + (3 * top + 5) := by rw [Nat.mul_succ]
    refine ⟨rfl, d2, n + (3 * top + 5) * i, top, rfl, hp, by omega, by omega, fun f d3 hf hd3 => ?_⟩
    refine ⟨Nat.le_of_ble_eq_true rfl, d3, rfl, hq f rows d3 ⟨hf, e2, hr⟩ (hd3.mono ?_)⟩
    omega
  · obtain ⟨i, rows, d2, x4, x5, x6, e1, e2, hr, hp, rfl⟩ := hI
    rw [List.length_cons] at e1
    have es : (3 * top + 5) * (many + 1) = (3 * top + 5) * many + (3 * top + 5) := by rw [Nat.mul_succ]
    have ei : (3 * top + 5) * (i + 1) = (3 * top + 5) * i + (3 * top + 5) := by rw [Nat.mul_succ]
    have le : (3 * top + 5) * (i + 1) ≤ (3 * top + 5) * many := Nat.mul_le_mul_left _ (by omega)
    refine ⟨rfl, d2, _, top, rfl, hp, by omega, by omega, fun w1 d3 hw1 hd3 => ?_⟩
    refine ⟨rfl, d3, _, many, rfl, hd3, by omega, hm0, by omega, fun k1 d4 hk1 hd4 => ⟨Nat.le_of_ble_eq_true rfl, ?_⟩⟩
    refine ⟨rfl, d4, _, top, rfl, hd4, by omega, by omega, fun w2 d5 hw2 hd5 => ?_⟩
    refine ⟨rfl, d5, _, many, rfl, hd5, by omega, hm0, by omega, fun k2 d6 hk2 hd6 => ⟨Nat.le_of_ble_eq_true rfl, ?_⟩⟩
    refine ⟨rfl, d6, _, top, rfl, hd6, by omega, by omega, fun w3 d7 hw3 hd7 => ⟨Nat.le_of_ble_eq_true rfl, ?_, ?_⟩⟩
    · rw [List.length_map]; omega
    · refine hN _ ⟨i + 1, rows ++ [((w1, k1), (w2, k2), w3)], d7, some (.val z), some (.val (mvD (w1, k1))), some (.val (mvD (w2, k2))), by omega, by simp [e2], fun x hx => ?_, hd7.mono (by omega), ?_⟩
      · rcases List.mem_append.mp hx with hx | hx
        · exact hr x hx
        · rw [List.mem_singleton.mp hx]
          exact ⟨hw1, hk1, hw2, hk2, hw3⟩
      · rw [List.map_append]
        rfl
/-- what a drawn machine writes, and where a road ends -/
def F_law_bk_walk : DF := fun ds q => ∃ (f : List Bool) (rows : List Row) (w : List Bool), ds = [macD f rows, Wd w] ∧ (∀ x ∈ rows, rowOk rows.length x) ∧ 0 < rows.length ∧ w.length ≤ 16777216 ∧ (f ++ (walk rows 0 w).1).length ≤ 16777216 ∧ q (.tuple [Wd (f ++ (walk rows 0 w).1), .int (walk rows 0 w).2]) .none
theorem pl_law_bk_walk : PL_law_bk_walk F_law_bk_walk := by
  intro ds q a _ h
  obtain ⟨f, rows, w, rfl, ok, hs, hw, ht, hq⟩ := h
  refine ⟨_, rfl, ?_⟩
  refine ⟨_, rfl, ?_⟩
  refine forGo_inv (fun r ρ => ∃ (w2 : List Bool) (s2 : Nat) (g : List Bool) (x2 x5 : Option Cell), r = w2.map (fun b => S [sg b]) ∧ s2 < rows.length ∧ g ++ (walk rows s2 w2).1 = f ++ (walk rows 0 w).1 ∧ (walk rows s2 w2).2 = (walk rows 0 w).2 ∧
    ρ = [some (.val (macD f rows)), some (.val (Wd w)), x2, some (.val (Wd g)), some (.val (.int s2)), x5]) (fun ρ hI => ?_) (fun d r ρ N hN hI => ?_) _ _ ?_
  · obtain ⟨w2, s2, g, x2, x5, e, l3, e2, e3, rfl⟩ := hI
    obtain rfl : w2 = [] := by
      cases w2 with
      | nil => rfl
      | cons b w2 => cases e
    simp only [walk, List.append_nil] at e2
    refine ⟨Nat.le_of_ble_eq_true rfl, ?_⟩
    rw [e2, show s2 = (walk rows 0 w).2 from e3]
    exact hq
  · obtain ⟨w2, s2, g, x2, x5, e, l3, e2, e3, rfl⟩ := hI
    cases w2 with
    | nil => cases e
    | cons b w2 =>
      cases e
      obtain ⟨r, hr⟩ : ∃ r, rows[s2]? = some r := ⟨_, List.getElem?_eq_getElem l3⟩
      have hwk : walk rows s2 (b :: w2) = ((mvOf r b).1 ++ (walk rows (mvOf r b).2 w2).1, (walk rows (mvOf r b).2 w2).2) := by
        conv => lhs; unfold walk
        rw [hr]
      rw [hwk] at e2 e3
      have lg : (g ++ (mvOf r b).1).length ≤ 16777216 := by
        have := congrArg List.length e2
        simp only [List.length_append] at this ht ⊢
        omega
      have ixs : gIndex (S [76, 82]) (S [sg b]) = gIndex (S [76, 82]) (S [sg b]) := rfl
      cases b with
      | false =>
        refine ⟨_, rfl, _, at_row hr, rfl, .inl ⟨rfl, mvD r.1, rfl, rfl, rfl, ?_, ?_⟩⟩
        · show (enc g).length + (enc _).length ≤ _
          rw [enc_len, enc_len, ← List.length_append]
          exact lg
        · refine hN _ ⟨w2, r.1.2, g ++ r.1.1, some (.val (S [76])), some (.val (Wd r.1.1)), rfl, (mv_ok ok hr false).2, by rw [List.append_assoc]; exact e2, e3, ?_⟩
          rw [← S_app]
          rfl
      | true =>
        refine ⟨_, rfl, _, at_row hr, rfl, .inr ⟨rfl, mvD r.2.1, rfl, rfl, rfl, ?_, ?_⟩⟩
        · show (enc g).length + (enc _).length ≤ _
          rw [enc_len, enc_len, ← List.length_append]
          exact lg
        · refine hN _ ⟨w2, r.2.1.2, g ++ r.2.1.1, some (.val (S [82])), some (.val (Wd r.2.1.1)), rfl, (mv_ok ok hr true).2, by rw [List.append_assoc]; exact e2, e3, ?_⟩
          rw [← S_app]
          rfl
  · refine ⟨w, 0, f, none, none, ?_, hs, rfl, rfl, rfl⟩
    show (L (mk (enc w))).map _ = _
    rw [L_mk, enc, List.map_map]
    rfl
def F_law_bk_run : DF := fun ds q => ∃ (f : List Bool) (rows : List Row) (w : List Bool), ds = [macD f rows, Wd w] ∧ (∀ x ∈ rows, rowOk rows.length x) ∧ 0 < rows.length ∧ w.length ≤ 16777216 ∧ (runM f rows w).length ≤ 16777216 ∧ q (Wd (runM f rows w)) .none
theorem pl_law_bk_run : PL_law_bk_run F_law_bk_run F_law_bk_walk := by
  intro ds q a _ h
  obtain ⟨f, rows, w, rfl, ok, hs, hw, hl, hq⟩ := h
  have hs2 := walk_lt ok w 0 hs
  obtain ⟨r, hr⟩ : ∃ r, rows[(walk rows 0 w).2]? = some r := ⟨_, List.getElem?_eq_getElem hs2⟩
  have e : runM f rows w = f ++ (walk rows 0 w).1 ++ r.2.2 := by unfold runM; rw [hr]; rfl
  rw [e] at hl hq
  simp only [List.length_append] at hl
  refine ⟨rfl, f, rows, w, rfl, ok, hs, hw, by rw [List.length_append]; omega, .inl rfl, rfl, rfl, ?_⟩
  refine ⟨_, rfl, _, at_row hr, Wd r.2.2, rfl, ?_, ?_⟩
  · show (enc _).length + (enc _).length ≤ _
    rw [enc_len, enc_len, List.length_append]; omega
  · show q (S (enc _ ++ enc _)) .none
    rw [← enc_app]
    exact hq
end DL
namespace DL
open PySem PySem.Spec PyProof.Rows L2
/-! ### the law's own maps -/
def F_law_bk_share : DF := fun ds q => ∃ x y : Int, ds = [.int x, .int y] ∧ x.natAbs < 2 ^ 1000 ∧ y.natAbs < 2 ^ 1000 ∧ q (.int (Nat.gcd x.natAbs y.natAbs)) .none
theorem gcd_down {x y k : Nat} (h : y ≤ x) (hy : 0 < y) (l : x * y < 2 ^ (k + 1)) : y * (x % y) < 2 ^ k ∧ x % y ≤ y := by
  have m := Nat.mod_lt x hy
  have d : x % y + y * (x / y) = x := Nat.mod_add_div x y
  have q : 1 ≤ x / y := Nat.div_pos h hy
  have q2 : y ≤ y * (x / y) := Nat.le_mul_of_pos_right _ q
  have two : 2 * (x % y) ≤ x := by omega
  have e : 2 * (y * (x % y)) ≤ x * y := by
    have := Nat.mul_le_mul_left y two
    rw [Nat.mul_comm x y, Nat.mul_left_comm]
    exact this
  rw [Nat.pow_succ] at l
  omega
theorem pl_law_bk_share : PL_law_bk_share F_law_bk_share := by
  intro ds q a _ h
  obtain ⟨x, y, rfl, hx, hy, hq⟩ := h
  simp [t_law_bk_share, natAbs_if, -e_forGo1]
  have pxy : x.natAbs * y.natAbs < 2 ^ 2000 := by
    rw [show 2000 = 1000 + 1000 from rfl, Nat.pow_add]
    exact Nat.mul_lt_mul'' hx hy
  refine for_at (α := Nat) (β := Nat × Nat × Option Cell) (fun k => PyData.int k) (fun b => [some (.val (.int b.1)), some (.val (.int b.2.1)), b.2.2])
    (fun r b => Nat.gcd b.1 b.2.1 = Nat.gcd x.natAbs y.natAbs ∧ ∃ k, b.1 * b.2.1 < 2 ^ k ∧ (b.2.1 ≤ b.1 ∧ k + 1 ≤ r.length ∨ k + 2 ≤ r.length)) ?_ ?_ (List.range 4000) (x.natAbs, y.natAbs, none) ⟨rfl, 2000, pxy, .inr (by simp)⟩
  · rintro ⟨u, v, x2⟩ ⟨_, k, _, h⟩
    simp at h
  · rintro i r ⟨u, v, x2⟩ ⟨e, k, l, h⟩ N hN
    simp at e l h hN
    simp
    by_cases c : v = 0
    · subst c
      simp at e
      simp [← e] at hq
      simpa using hq
    · rw [if_neg c]
      refine ⟨by omega, ?_⟩
      have := hN v (u % v) (some (.val (.int i))) (by rw [← e, Nat.gcd_comm v, Nat.gcd_comm u, ← Nat.gcd_rec])
      by_cases d : v ≤ u
      · cases k with
        | zero =>
          have : 0 < u * v := Nat.mul_pos (by omega) (by omega)
          simp at l
          omega
        | succ k =>
          obtain ⟨m1, m2⟩ := gcd_down d (by omega) l
          have := this k m1 (.inl ⟨m2, by omega⟩)
          simpa using this
      · have mu : u % v = u := Nat.mod_eq_of_lt (by omega)
        rw [mu] at this
        have := this k (by rw [Nat.mul_comm]; exact l) (.inl ⟨by omega, by omega⟩)
        simpa [← Int.natCast_emod, mu] using this
def F_law_bk_number : DF := fun ds q => ∃ w : List Bool, ds = [Wd w] ∧ w.length ≤ 100000 ∧ q (frD (numB w)) .none
theorem pl_law_bk_number : PL_law_bk_number F_law_bk_number := by
  intro ds q a _ h
  obtain ⟨w, rfl, hw, hq⟩ := h
  simp [t_law_bk_number, -e_forGo1]
  refine ⟨by omega, ?_⟩
  rw [← List.map_reverse]
  refine for_at (α := Bool) (β := (Nat × Nat) × Option Cell) (fun b => Wd [b]) (fun b => [some (.val (Wd w)), b.2, some (.val (.int b.1.1)), some (.val (.int b.1.2))])
    (fun r b => r.foldl (fun v t => stepT t v) b.1 = numB w) ?_ ?_ w.reverse ((1, 1), none) ?_
  · rintro ⟨⟨u, v⟩, x⟩ h
    simp at h
    simp
    rw [← h] at hq
    exact hq
  · rintro t r ⟨⟨u, v⟩, x⟩ h N hN
    simp at h hN
    simp
    cases t
    · simpa [stepT] using hN u (u + v) (some (.val (Wd [false]))) (by rw [← h]; simp [stepT])
    · simpa [stepT] using hN (u + v) v (some (.val (Wd [true]))) (by rw [← h]; simp [stepT])
  · simp
    rfl
def F_law_bk_worth : DF := fun ds q => ∃ m : Mp, ds = [mpD m] ∧ msum m ≤ 1000000000 ∧ q (.int (det m)) .none
theorem pl_law_bk_worth : PL_law_bk_worth F_law_bk_worth := by
  intro ds q a _ h
  obtain ⟨m, rfl, h, hq⟩ := h
  simp only [msum] at h
  simp [t_law_bk_worth, mpD]
  exact ⟨mul_small (by omega), mul_small (by omega), hq⟩
def gcdN (ns : List Nat) : Nat := ns.foldl Nat.gcd 0
def F_law_bk_least : DF := fun ds q => ∃ ns : List Nat, ds = [.list (ns.map fun n => .int (n : Nat))] ∧ ns.length ≤ 100 ∧ (∀ n ∈ ns, n ≤ 1000000000) ∧ q (.tuple (ns.map fun n => .int ((n / (if 1 < gcdN ns then gcdN ns else 1) : Nat) : Int))) .none
theorem gcd_bound {x y B : Nat} (h1 : x ≤ B) (h2 : y ≤ B) : Nat.gcd x y ≤ B := by
  rcases Nat.eq_zero_or_pos x with e | e
  · subst e
    rw [Nat.gcd_zero_left]
    exact h2
  · exact Nat.le_trans (Nat.gcd_le_left _ e) h1
theorem gcdN_le : ∀ (ns : List Nat) (g B : Nat), g ≤ B → (∀ n ∈ ns, n ≤ B) → ns.foldl Nat.gcd g ≤ B
  | [], g, B, h, _ => h
  | n :: ns, g, B, h, k => gcdN_le ns (Nat.gcd g n) B (gcd_bound h (k n (List.mem_cons_self ..))) fun m hm => k m (List.mem_cons_of_mem _ hm)
theorem small_pow {x : Nat} (h : x ≤ 1000000000) : x < 2 ^ 1000 := Nat.lt_of_lt_of_le (show x < 2 ^ 32 by omega) (Nat.pow_le_pow_right (by decide) (by decide))
theorem pl_law_bk_least : PL_law_bk_least F_law_bk_least F_law_bk_share := by
  intro ds q a _ h
  obtain ⟨ns, rfl, hl, hb, hq⟩ := h
  simp [t_law_bk_least, -e_forGo1]
  refine for_at (α := Nat) (β := Nat × Option Cell) (fun n => .int (n : Nat)) (fun b => [some (.val (.list (ns.map fun n => .int (n : Nat)))), some (.val (.int b.1)), b.2])
    (fun r b => r.foldl Nat.gcd b.1 = gcdN ns ∧ b.1 ≤ 1000000000 ∧ (∀ n ∈ r, n ≤ 1000000000) ∧ plain1 [none, none, b.2] 2 = true) ?_ ?_ ns (0, none) ⟨rfl, by simp, hb, rfl⟩
  · rintro ⟨g, x2⟩ ⟨e, gb, _, px⟩
    simp at e gb px
    have px2 : plainC [some (.val (.list (ns.map fun n => .int (n : Nat)))), some (.val (.int g)), x2] [2] = true := by
      simp [plainC, plain1] at px ⊢
      exact px
    simp
    refine ⟨by simpa using px2, ?_⟩
    refine lc_at (fun n : Nat => .int (n : Nat)) (fun n : Nat => .int ((n / (if 1 < gcdN ns then gcdN ns else 1) : Nat) : Int)) ns px2 ?_ (by omega) ?_
    · intro n hn Q1 Q2 hQ
      simp [wipeD]
      rw [← e] at hQ
      by_cases c : 1 < g
      · have c2 : (1 : Int) < g := by omega
        rw [if_pos c2]
        refine ⟨div_small (by omega) (by omega), ?_⟩
        rw [if_pos c] at hQ
        simpa using hQ _ rfl
      · have c2 : ¬ (1 : Int) < g := by omega
        rw [if_neg c2]
        refine ⟨div_small (y := 1) (by omega) (by omega), ?_⟩
        rw [if_neg c] at hQ
        simpa using hQ _ rfl
    · simp
      exact hq
  · rintro n r ⟨g, x2⟩ ⟨e, gb, nb, px⟩ N hN
    simp at e gb nb hN
    simp
    refine ⟨g, n, rfl, by simpa using small_pow gb, by simpa using small_pow nb.1, ?_⟩
    simp
    exact hN _ _ e (gcd_bound gb nb.1) nb.2 rfl
def F_law_bk_sent : DF := fun ds q => ∃ (m : Mp) (v : Nat × Nat), ds = [mpD m, frD v] ∧ msum m ≤ 1000000000 ∧ 0 < (ap m v).1 ∧ 0 < (ap m v).2 ∧ (ap m v).1 ≤ 1000000000 ∧ (ap m v).2 ≤ 1000000000 ∧ q (frD (lowest (ap m v))) .none
theorem pl_law_bk_sent : PL_law_bk_sent F_law_bk_sent F_law_bk_share := by
  intro ds q a _ h
  obtain ⟨m, v, rfl, h0, p1, p2, h1, h2, hq⟩ := h
  simp only [msum] at h0
  have g0 : 0 < Nat.gcd (ap m v).1 (ap m v).2 := Nat.gcd_pos_of_pos_left _ p1
  have gb := gcd_bound (B := 1000000000) h1 h2
  simp [t_law_bk_sent, mpD, frD]
  refine ⟨mul_small (by omega), mul_small (by omega), mul_small (by omega), mul_small (by omega), ?_⟩
  refine ⟨((ap m v).1 : Int), ((ap m v).2 : Int), by simp [ap], by simpa using small_pow h1, by simpa using small_pow h2, ?_⟩
  have e : (if (1 : Int) < ((Nat.gcd (ap m v).1 (ap m v).2 : Nat) : Int) then ((Nat.gcd (ap m v).1 (ap m v).2 : Nat) : Int) else 1) = ((Nat.gcd (ap m v).1 (ap m v).2 : Nat) : Int) := by
    split <;> omega
  simp [e]
  refine ⟨div_small g0 (by omega), div_small g0 (by omega), ?_⟩
  simpa [frD, lowest, ap] using hq
def F_law_bk_road : DF := fun ds q => ∃ w : List Bool, ds = [frD (numB w)] ∧ w.length < 4000 ∧ q (Wd w) .none
theorem pl_law_bk_road : PL_law_bk_road F_law_bk_road := by
  intro ds q a _ h
  obtain ⟨w, rfl, hw, hq⟩ := h
  simp [t_law_bk_road, frD, -e_forGo1]
  refine for_at (α := Nat) (β := List Bool × List Bool × Option Cell) (fun k => PyData.int k) (fun b => [some (.val (frD (numB w))), some (.val (Wd b.1)), b.2.2, some (.val (.int (numB b.2.1).1)), some (.val (.int (numB b.2.1).2))])
    (fun r b => b.1 ++ b.2.1 = w ∧ b.2.1.length < r.length + 0) ?_ ?_ (List.range 4000) ([], w, none) ⟨rfl, by simpa using hw⟩
  · rintro ⟨u, v, x⟩ ⟨_, h⟩
    simp at h
  · rintro i r ⟨u, v, x⟩ ⟨e, l⟩ N hN
    simp only [List.length_cons, Nat.add_zero] at e l hN
    cases v with
    | nil =>
      simp at e
      subst e
      simp
      exact hq
    | cons t v =>
      have p := num_pos v
      have e2 : numB (t :: v) = stepT t (numB v) := rfl
      have len : u.length ≤ 16777215 := by
        have := congrArg List.length e
        simp at this
        omega
      have fin := hN (u ++ [t], v, some (.val (.int i))) ⟨by simpa using e, by simpa using l⟩
      simp only [e2]
      generalize numB v = z at *
      obtain ⟨z1, z2⟩ := z
      simp at p
      cases t
      · simp [stepT]
        have c1 : ¬ (z1 : Int) = z1 + z2 := by omega
        have c2 : ¬ (z1 : Int) + z2 < z1 := by omega
        rw [if_neg c1, if_neg c2]
        refine ⟨len, ?_⟩
        have c3 : (z1 : Int) + z2 - z1 = z2 := by omega
        rw [c3]
        simpa using fin
      · simp [stepT]
        have c1 : ¬ (z1 : Int) + z2 = z2 := by omega
        have c2 : (z2 : Int) < z1 + z2 := by omega
        rw [if_neg c1, if_pos c2]
        refine ⟨len, ?_⟩
        simpa using fin
theorem low4 (x0 x1 x2 x3 : Nat) : 0 < (if 1 < gcdN [x0, x1, x2, x3] then gcdN [x0, x1, x2, x3] else 1) ∧ (det ⟨x0 / (if 1 < gcdN [x0, x1, x2, x3] then gcdN [x0, x1, x2, x3] else 1), x1 / (if 1 < gcdN [x0, x1, x2, x3] then gcdN [x0, x1, x2, x3] else 1), x2 / (if 1 < gcdN [x0, x1, x2, x3] then gcdN [x0, x1, x2, x3] else 1), x3 / (if 1 < gcdN [x0, x1, x2, x3] then gcdN [x0, x1, x2, x3] else 1)⟩ ≠ 0 →
    Nat.gcd (Nat.gcd (Nat.gcd (x0 / (if 1 < gcdN [x0, x1, x2, x3] then gcdN [x0, x1, x2, x3] else 1)) (x1 / (if 1 < gcdN [x0, x1, x2, x3] then gcdN [x0, x1, x2, x3] else 1))) (x2 / (if 1 < gcdN [x0, x1, x2, x3] then gcdN [x0, x1, x2, x3] else 1))) (x3 / (if 1 < gcdN [x0, x1, x2, x3] then gcdN [x0, x1, x2, x3] else 1)) = 1) := by
  have e : gcdN [x0, x1, x2, x3] = Nat.gcd (Nat.gcd (Nat.gcd x0 x1) x2) x3 := by simp [gcdN]
  have d3 : gcdN [x0, x1, x2, x3] ∣ x3 := by rw [e]; exact Nat.gcd_dvd_right ..
  have d012 : gcdN [x0, x1, x2, x3] ∣ Nat.gcd (Nat.gcd x0 x1) x2 := by rw [e]; exact Nat.gcd_dvd_left ..
  have d2 := Nat.dvd_trans d012 (Nat.gcd_dvd_right ..)
  have d01 := Nat.dvd_trans d012 (Nat.gcd_dvd_left ..)
  have d1 := Nat.dvd_trans d01 (Nat.gcd_dvd_right ..)
  have d0 := Nat.dvd_trans d01 (Nat.gcd_dvd_left ..)
  generalize hG : gcdN [x0, x1, x2, x3] = G at *
  by_cases c : 1 < G
  · rw [if_pos c]
    refine ⟨by omega, fun _ => ?_⟩
    rw [Nat.gcd_div d0 d1, Nat.gcd_div d01 d2, Nat.gcd_div d012 d3, ← e, Nat.div_self (by omega)]
  · rw [if_neg c]
    refine ⟨Nat.one_pos, fun h => ?_⟩
    simp only [Nat.div_one] at h ⊢
    rw [← e]
    rcases Nat.eq_zero_or_pos G with z | z
    · subst z
      have z0 := Nat.eq_zero_of_zero_dvd d0
      have z1 := Nat.eq_zero_of_zero_dvd d1
      subst z0 z1
      simp [det] at h
    · omega
/-- the charts that are drawn -/
def chartOk (top size : Nat) (m : Mp) : Prop := m.a ≤ top ∧ m.b ≤ top ∧ m.c ≤ top ∧ m.d ≤ top ∧ det m ≠ 0 ∧ (det m).natAbs ≤ size ∧ Nat.gcd (Nat.gcd (Nat.gcd m.a m.b) m.c) m.d = 1
def F_law_bk_chart : DF := fun ds q => ∃ (d : PyData) (n top size : Nat), ds = [d, .int top, .int size] ∧ PuOk n d ∧ n < 900000000 ∧ 2 ≤ top ∧ top ≤ 1000000 ∧ 1 ≤ size ∧ ∀ (m : Mp) (d' : PyData), chartOk top size m → PuOk (n + 100) d' → q (mpD m) d'
theorem pl_law_bk_chart : PL_law_bk_chart F_law_bk_chart F_law_coin F_law_bk_least F_law_bk_worth := by
  intro ds q a _ h
  obtain ⟨d, n, top, size, rfl, hd, hn, ht, ht2, hs, hq⟩ := h
  simp [t_law_bk_chart, -e_forGo1]
  refine for_at (α := Nat) (β := PyData × Option Cell × Option Cell × Option Cell) (fun k => PyData.int k) (fun b => [some (.own a b.1), some (.val (.int top)), some (.val (.int size)), b.2.1, b.2.2.1, b.2.2.2, none])
    (fun r b => PuOk (n + 5 * (20 - r.length)) b.1 ∧ r.length ≤ 20) ?_ ?_ (List.range 20) (d, none, none, none) ⟨by simpa using hd, by simp⟩
  · rintro ⟨d1, c0, c1, c2⟩ ⟨h1, _⟩
    simp at h1
    simp
    exact hq ⟨2, 1, 1, 1⟩ d1 ⟨by simp; omega, by simp; omega, by simp; omega, by simp; omega, by decide, hs, by decide⟩ h1
  · rintro i r ⟨d1, c0, c1, c2⟩ ⟨h1, h3⟩ N hN
    simp at h1 h3 hN
    simp
    refine ⟨d1, _, top, rfl, h1, by omega, by omega, by omega, fun k1 d2 hk1 hd2 => ?_⟩
    have r4 : List.range 4 = [0, 1, 2, 3] := by decide
    have coin : ∀ (d : PyData) (b : Nat) (K : PyData → PyData → Prop), PuOk b d → b < 1000000000 → (∀ (k : Nat) (d' : PyData), k ≤ k1 + 1 → PuOk (b + 1) d' → K (.int k) d') → F_law_coin [d, .int (2 + (k1 : Int))] K := fun d b K h l hK =>
      ⟨d, b, 2 + k1, by simp, h, l, by omega, by omega, fun k d' hk hd' => hK k d' (by omega) hd'⟩
    simp [lcGo, wipeD, backD, plainC, plain1, r4]
    refine coin _ _ _ hd2 (by omega) fun x0 e0 l0 g0 => ?_
    simp [lcGo, wipeD, backD, plainC, plain1]
    refine coin _ _ _ g0 (by omega) fun x1 e1 l1 g1 => ?_
    simp [lcGo, wipeD, backD, plainC, plain1]
    refine coin _ _ _ g1 (by omega) fun x2 e2 l2 g2 => ?_
    simp [lcGo, wipeD, backD, plainC, plain1]
    refine coin _ _ _ g2 (by omega) fun x3 e3 l3 g3 => ?_
    simp [lcGo, wipeD, backD, plainC, plain1]
    refine ⟨[x0, x1, x2, x3], rfl, by simp, by simp; omega, ?_⟩
    simp
    obtain ⟨gp, gone⟩ := low4 x0 x1 x2 x3
    generalize (if 1 < gcdN [x0, x1, x2, x3] then gcdN [x0, x1, x2, x3] else 1) = g at gp gone ⊢
    have le : ∀ x : Nat, x ≤ k1 + 1 → x / g ≤ top := fun x hx => Nat.le_trans (Nat.div_le_self ..) (by omega)
    refine ⟨⟨x0 / g, x1 / g, x2 / g, x3 / g⟩, by simp [mpD], ?_, ?_⟩
    · have a0 := le x0 l0
      have a1 := le x1 l1
      have a2 := le x2 l2
      have a3 := le x3 l3
      simp only [msum]
      omega
    have go := fun (c : det ⟨x0 / g, x1 / g, x2 / g, x3 / g⟩ ≠ 0) (c2 : (det ⟨x0 / g, x1 / g, x2 / g, x3 / g⟩).natAbs ≤ size) => hq ⟨x0 / g, x1 / g, x2 / g, x3 / g⟩ e3 ⟨le x0 l0, le x1 l1, le x2 l2, le x3 l3, c, c2, gone c⟩ (g3.mono (by omega))
    generalize det ⟨x0 / g, x1 / g, x2 / g, x3 / g⟩ = D at go
    simp [natAbs_if]
    by_cases c : D = 0
    · subst c
      simp
      exact hN _ _ _ _ (g3.mono (by omega)) (by omega)
    · have c1 : 0 < D.natAbs := by omega
      by_cases c2 : D.natAbs ≤ size
      · simp [c1, c2, c]
        simpa [mpD] using go c c2
      · simp [c1, c2, c]
        exact hN _ _ _ _ (g3.mono (by omega)) (by omega)
end DL
namespace DL
open PySem PySem.Spec PyProof.Rows L2
/-! ### all short roads, as the law lists them -/
def lev : Nat → List (List Bool)
  | 0 => [[]]
  | k + 1 => (lev k).flatMap fun w => [w ++ [false], w ++ [true]]
theorem range_two (g : Nat → List Bool) : ∀ m : Nat, (List.range (2 * m)).map g = (List.range m).flatMap fun j => [g (2 * j), g (2 * j + 1)]
  | 0 => rfl
  | m + 1 => by
    rw [show 2 * (m + 1) = 2 * m + 1 + 1 by omega, List.range_succ, List.range_succ, List.range_succ, List.flatMap_append, ← range_two g m]
    simp
theorem lev_eq : ∀ k : Nat, lev k = (List.range (2 ^ k)).map fun j => nth (2 ^ k - 1 + j)
  | 0 => by simp [lev, nth0]
  | k + 1 => by
    have p : 0 < 2 ^ k := Nat.pow_pos (by decide)
    rw [lev, lev_eq k, Nat.pow_succ, Nat.mul_comm _ 2, range_two, List.flatMap_map]
    congr 1
    funext j
    rw [show 2 * 2 ^ k - 1 + 2 * j = 2 * (2 ^ k - 1 + j) + 1 by omega, show 2 * 2 ^ k - 1 + (2 * j + 1) = 2 * (2 ^ k - 1 + j) + 2 by omega, nth1, nth2]
theorem roads_succ (k : Nat) : roadsTo (k + 1) = roadsTo k ++ lev (k + 1) := by
  have p : 0 < 2 ^ (k + 1) := Nat.pow_pos (by decide)
  rw [lev_eq, roadsTo, roadsTo, show 2 ^ (k + 1 + 1) - 1 = (2 ^ (k + 1) - 1) + 2 ^ (k + 1) by rw [Nat.pow_succ]; omega, List.range_add, List.map_append, List.map_map]
  rfl
theorem lev_len (k : Nat) : (lev k).length = 2 ^ k := by rw [lev_eq]; simp
theorem lev_mem : ∀ (k : Nat) {w : List Bool}, w ∈ lev k → w.length = k
  | 0, w, h => by simp [lev] at h; subst h; rfl
  | k + 1, w, h => by
    simp [lev] at h
    obtain ⟨u, hu, h⟩ := h
    have := lev_mem k hu
    rcases h with rfl | rfl <;> simp [this]
def F_law_bk_texts : DF := fun ds q => ∃ n : Nat, ds = [.int n] ∧ n ≤ 20 ∧ q (.list ((roadsTo n).map Wd)) .none
theorem pl_law_bk_texts : PL_law_bk_texts F_law_bk_texts := by
  intro ds q a _ h
  obtain ⟨n, rfl, hn, hq⟩ := h
  simp [t_law_bk_texts, -e_forGo1]
  refine ⟨by omega, ?_⟩
  refine for_at (α := Nat) (β := (Nat × List (List Bool)) × Option Cell × Option Cell × Option Cell) (fun k => PyData.int k) (fun b => [some (.val (.int n)), b.2.1, some (.val (.list (b.1.2.map Wd))), some (.val (.list ((lev b.1.1).map Wd))), b.2.2.1, b.2.2.2])
    (fun r b => b.1.1 + r.length = n ∧ b.1.2 = roadsTo b.1.1) ?_ ?_ (List.range n) ((0, [[]]), none, none, none) ⟨by simp, by simp [roadsTo, nth0]⟩
  · rintro ⟨⟨k, fd⟩, x1, x4, x5⟩ ⟨h, e⟩
    simp at h e
    subst h e
    simp
    exact hq
  · rintro i r ⟨⟨k, fd⟩, x1, x4, x5⟩ ⟨h, e⟩ N hN
    simp at h hN e
    subst e
    have pk : 2 ^ (k + 1) ≤ 2 ^ 20 := Nat.pow_le_pow_right (by decide) (by omega)
    have pk2 : 2 ^ k ≤ 2 ^ 20 := Nat.pow_le_pow_right (by decide) (by omega)
    have pk3 : 2 ^ (k + 2) ≤ 2 ^ 21 := Nat.pow_le_pow_right (by decide) (by omega)
    simp [-e_forGo1]
    refine for_at (α := List Bool) (β := List (List Bool) × Option Cell) Wd (fun b => [some (.val (.int n)), some (.val (.int i)), some (.val (.list ((roadsTo k).map Wd))), some (.val (.list ((lev k).map Wd))), some (.val (.list (b.1.map Wd))), b.2])
      (fun s b => b.1 ++ (s.flatMap fun w => [w ++ [false], w ++ [true]]) = lev (k + 1) ∧ (∀ w ∈ s, w.length ≤ 20) ∧ b.1.length + 2 * s.length ≤ 2 ^ 21) ?_ ?_ (lev k) ([], x5) ⟨by simp [lev], fun w hw => by rw [lev_mem k hw]; omega, by simp [lev_len]; omega⟩
    · rintro ⟨l, y⟩ ⟨e, _, _⟩
      simp at e
      subst e
      simp [roads_many, lev_len]
      refine ⟨by omega, ?_⟩
      have := hN (k + 1) (roadsTo (k + 1)) (some (.val (.int i))) (some (.val (.list ((lev (k + 1)).map Wd)))) y (by omega) rfl
      rw [roads_succ] at this
      simpa using this
    · rintro w s ⟨l, y⟩ ⟨e, hw, hl⟩ M hM
      simp at e hw hl hM
      simp
      refine ⟨by omega, by omega, ?_⟩
      have := hM (l ++ [w ++ [false], w ++ [true]]) (some (.val (Wd w))) (by rw [← e]; simp) hw.2 (by simp; omega)
      simpa using this
end DL
namespace DL
open PySem PySem.Spec PyProof.Rows L2
/-! ### how words and machines are shown and held against one another -/
theorem big_w (w : List Bool) : ((mk (enc w)).cps.toList.all fun c => decide (c < 16 ^ 8)) = true := by
  rw [List.all_eq_true]
  intro c hc
  exact decide_eq_true (Nat.lt_trans (enc_lt w c hc) (by decide))
theorem size_w (w : List Bool) : (mk (enc w)).cps.size = w.length := by
  show (enc w).toArray.size = _
  rw [List.size_toArray, enc_len]
theorem short_ws : ∀ ws : List (List Bool), PyData.leavesShortAll 8 (ws.map Wd) = true
  | [] => rfl
  | w :: ws => by
    simp only [List.map_cons, PyData.leavesShortAll, short_ws ws, Bool.and_true]
    exact big_w w
theorem weight_ws : ∀ ws : List (List Bool), PyData.weightAll (ws.map Wd) = (ws.map fun w => w.length + 1).sum
  | [] => rfl
  | w :: ws => by
    simp only [List.map_cons, PyData.weightAll, weight_ws ws, List.sum_cons]
    congr 1
    show (mk (enc w)).cps.size + 1 = _
    rw [size_w]
theorem depth_ws : ∀ ws : List (List Bool), PyData.depthAll (ws.map Wd) = 0
  | [] => rfl
  | w :: ws => by
    simp only [List.map_cons, PyData.depthAll, depth_ws ws]
    rfl
theorem showable_ws : ∀ ws : List (List Bool), PyData.showableAll (ws.map Wd) = true
  | [] => rfl
  | w :: ws => by
    simp only [List.map_cons, PyData.showableAll, showable_ws ws, Bool.and_true]
    rfl
theorem nodict_ws : ∀ ws : List (List Bool), PyData.hasDictAll (ws.map Wd) = false
  | [] => rfl
  | w :: ws => by
    simp only [List.map_cons, PyData.hasDictAll, nodict_ws ws, Bool.or_false]
    rfl
theorem sum_le {α : Type} (f : α → Nat) (B : Nat) : ∀ xs : List α, (∀ x ∈ xs, f x ≤ B) → (xs.map f).sum ≤ xs.length * B
  | [], _ => by simp
  | x :: xs, h => by
    rw [List.map_cons, List.sum_cons, List.length_cons, Nat.succ_mul]
    have := sum_le f B xs fun y hy => h y (List.mem_cons_of_mem _ hy)
    have := h x (List.mem_cons_self ..)
    omega
theorem shows_ws {ws : List (List Bool)} {B : Nat} (h : ∀ w ∈ ws, w.length ≤ B) (hB : ws.length * (B + 1) ≤ 1048576) : Shows (.list (ws.map Wd)) := by
  have su := sum_le (fun w : List Bool => w.length + 1) (B + 1) ws fun w hw => by have := h w hw; omega
  refine ⟨showable_ws ws, nodict_ws ws, ?_, ?_⟩
  · show PyData.depthAll _ + 1 ≤ 60
    rw [depth_ws]
    decide
  · have fit := PyData.shown_fits (B := 8) (Nat.le_refl _) (by decide) (d := .list (ws.map Wd)) (short_ws ws) (by
      show PyData.weightAll _ ≤ _
      rw [weight_ws]
      omega)
    rw [sizeLine_eq] at fit
    exact fit
theorem canlay_w (w : List Bool) : PyData.canLay0 (Wd w) = true := strOk_mk (enc_lt w)
theorem canlay_row (r : Row) : PyData.canLay0 (rowD r) = true ∧ PyData.depth (rowD r) ≤ 2 := by
  have h := canlay_w
  refine ⟨?_, ?_⟩
  · simp only [rowD, mvD, PyData.canLay0, PyData.canLayAll0, Bool.and_true, Bool.and_eq_true]
    exact ⟨h _, h _, h _⟩
  · simp [rowD, mvD, PyData.depth, PyData.depthAll]
theorem canlay_rows : ∀ rows : List Row, PyData.canLayAll0 (rows.map rowD) = true ∧ PyData.depthAll (rows.map rowD) ≤ 2
  | [] => ⟨rfl, by decide⟩
  | r :: rows => by
    obtain ⟨a, b⟩ := canlay_rows rows
    obtain ⟨c, d⟩ := canlay_row r
    refine ⟨?_, ?_⟩
    · simp only [List.map_cons, PyData.canLayAll0, a, c, Bool.and_self]
    · simp only [List.map_cons, PyData.depthAll]
      omega
theorem canlay_mac (f : List Bool) (rows : List Row) : PyData.canLay0 (macD f rows) = true ∧ PyData.depth (macD f rows) ≤ 4 := by
  obtain ⟨a, b⟩ := canlay_rows rows
  refine ⟨?_, ?_⟩
  · simp only [macD, PyData.canLay0, PyData.canLayAll0, a, Bool.and_true]
    exact canlay_w f
  · simp only [macD, PyData.depth, PyData.depthAll]
    omega
@[simp] theorem shaped_mac (f : List Bool) (rows : List Row) : SeqAt.shaped (macD f rows) = true := by
  obtain ⟨a, b⟩ := canlay_mac f rows
  unfold SeqAt.shaped
  rw [a, Bool.true_and]
  exact decide_eq_true (by omega)
@[simp] theorem eqv_mac (f : List Bool) (rows : List Row) : PyData.eqv (macD f rows) (macD f rows) = true := SeqAt.eqv_refl _ (canlay_mac f rows).1
theorem flats_rows : ∀ rows : List Row, flats (rows.map rowD) = true
  | [] => rfl
  | r :: rows => by
    simp only [List.map_cons, flats_1, flats_rows rows, Bool.and_true]
    simp [rowD, mvD]
theorem flats_ws : ∀ ws : List (List Bool), flats (ws.map Wd) = true
  | [] => rfl
  | r :: rows => by simp [flats_ws rows]
theorem cpy_rows : ∀ rows : List Row, (rows.map rowD).all (cpyD 2) = true
  | [] => rfl
  | r :: rows => by
    rw [List.map_cons, List.all_cons, cpy_rows rows, Bool.and_true]
    simp [rowD, mvD, cpyD]
theorem cpy_mac (f : List Bool) {rows : List Row} (h : rows.length ≤ 16777216) : cpyD 4 (macD f rows) = true := by
  have := cpy_rows rows
  unfold macD cpyD
  simp only [List.length_cons, List.length_nil, List.all_cons, List.all_nil, Bool.and_true]
  unfold cpyD
  rw [this]
  simp [h]
theorem nodes_rows : ∀ rows : List Row, nodesL (rows.map rowD) = []
  | [] => rfl
  | r :: rows => by simp [nodesL, nodes, rowD, mvD, nodes_rows rows]
theorem nodes_ws : ∀ ws : List (List Bool), nodesL (ws.map Wd) = []
  | [] => rfl
  | w :: ws => by simp only [List.map_cons, nodesL, nodes, nodes_ws ws, List.append_nil]
theorem apart_tab {f : List Bool} {rows : List Row} {n : Int} (h : 0 < rows.length) (ws : List (List Bool)) : Apart [macD f rows, .int n] (.list (ws.map Wd)) := by
  intro x hx
  simp only [nodesL, nodes, macD, nodes_rows, List.append_nil, List.nil_append, List.mem_cons, List.not_mem_nil, or_false] at hx
  subst hx
  simp only [nodes, nodes_ws, List.mem_cons, List.not_mem_nil, or_false]
  intro e
  injection e with e
  cases rows with
  | nil => simp at h
  | cons r rows =>
    cases ws with
    | nil => simp at e
    | cons w ws =>
      simp at e
      cases e.1
/-! ### how long what is written is -/
theorem walk_len {top : Nat} {rows : List Row} (h : ∀ r ∈ rows, r.1.1.length ≤ top ∧ r.2.1.1.length ≤ top) : ∀ (w : List Bool) (s : Nat), (walk rows s w).1.length ≤ top * w.length
  | [], s => by simp [walk]
  | t :: w, s => by
    unfold walk
    cases e : rows[s]? with
    | none => simp
    | some r =>
      obtain ⟨a, b⟩ := h r (List.mem_of_getElem? e)
      have ih := walk_len h w (mvOf r t).2
      simp only [List.length_append, List.length_cons, Nat.mul_succ]
      have : (mvOf r t).1.length ≤ top := by
        cases t
        · exact a
        · exact b
      omega
theorem run_len {many top : Nat} {f : List Bool} {rows : List Row} (h : shOk many top f rows) (w : List Bool) : (runM f rows w).length ≤ top * (w.length + 2) := by
  obtain ⟨h1, h2, h3⟩ := h
  have := walk_len (top := top) (rows := rows) (fun r hr => by obtain ⟨a, _, b, _, _⟩ := h3 r hr; exact ⟨a, b⟩) w 0
  unfold runM
  simp only [List.length_append]
  have e : (((rows[(walk rows 0 w).2]?).map (·.2.2)).getD []).length ≤ top := by
    cases e : rows[(walk rows 0 w).2]? with
    | none => simp
    | some r =>
      obtain ⟨_, _, _, _, c⟩ := h3 r (List.mem_of_getElem? e)
      simpa using c
  rw [Nat.mul_add]
  omega
theorem sh_mac {many top : Nat} {f : List Bool} {rows : List Row} (h : shOk many top f rows) (hm : 0 < many) (ht : top ≤ 1000000) : macOk f rows := by
  obtain ⟨h1, h2, h3⟩ := h
  refine ⟨by omega, by omega, fun r hr => ?_⟩
  obtain ⟨a, b, c, d, e⟩ := h3 r hr
  exact ⟨⟨by omega, by omega⟩, ⟨by omega, by omega⟩, by omega⟩
theorem sh_rev {many top : Nat} {f : List Bool} {rows : List Row} (h : shOk many top f rows) : shOk many top f rows.reverse := ⟨h.1, by rw [List.length_reverse]; exact h.2.1, fun r hr => h.2.2 r (List.mem_reverse.mp hr)⟩
theorem num_sum : ∀ w : List Bool, (numB w).1 + (numB w).2 ≤ 2 ^ (w.length + 1)
  | [] => by decide
  | t :: w => by
    have ih := num_sum w
    show (stepT t (numB w)).1 + (stepT t (numB w)).2 ≤ 2 ^ (w.length + 1 + 1)
    rw [Nat.pow_succ]
    cases t <;> simp [stepT] <;> omega
theorem putN_mac {i : Nat} {f : List Bool} {rows : List Row} {ρ : DEnv} {k : DEnv → Prop} : putN i (macD f rows) ρ k = ∀ P, k (ρ.set i (some (.deep P (macD f rows)))) := rfl
theorem putN_ws {i : Nat} {ws : List (List Bool)} {ρ : DEnv} {k : DEnv → Prop} : putN i (.list (ws.map Wd)) ρ k = ∀ p, k (ρ.set i (some (.own p (.list (ws.map Wd))))) := by
  show (if flats (ws.map Wd) = true then _ else _) = _
  rw [if_pos (flats_ws ws)]
theorem ixN_0 {n : Nat} (h : 0 < n) : ixN n 0 = some 0 := by
  unfold ixN
  rw [if_pos (by omega), if_pos (by omega)]
  rfl
theorem apart_swap {x y d : PyData} (h : Apart [x, y] d) : Apart [y, x] d := fun l hl => h l (by
  simp only [nodesL, List.append_nil, List.mem_append] at hl ⊢
  exact hl.symm)
end DL
namespace DL
open PySem PySem.Spec PyProof.Rows L2
def F_law_right : DF := fun ds q => ∃ (d : PyData) (n : Nat), ds = [d] ∧ PuOk n d ∧ n < 1000 ∧ ∀ e, q (.bool true) e
theorem roads_1 : roadsTo 1 = [[], [false], [true]] := by
  have h1 := nth1 0
  have h2 := nth2 0
  simp at h1 h2
  simp [roadsTo, List.range_succ, nth0, h1, h2]
theorem pl_law_right : PL_law_right F_law_right F_law_bk_shape F_law_coin F_law_bk_texts F_law_bk_run F_table_of F_law_bk_chart F_law_bk_road F_law_bk_sent F_law_bk_number F_machine_of := by
  intro ds q a _ h
  obtain ⟨d, n, rfl, hd, hn, hq⟩ := h
  simp [t_law_right]
  refine ⟨d, n, 8, rfl, hd, by omega, by omega, by omega, fun k1 d1 hk1 hd1 => ?_⟩
  simp
  refine ⟨d1, n + 1, 5, rfl, hd1, by omega, by omega, by omega, fun k2 d2 hk2 hd2 => ?_⟩
  simp
  have e1 : (1 : Int) + (k1 : Int) = ((1 + k1 : Nat) : Int) := by omega
  rw [e1]
  refine ⟨d2, n + 2, 1 + k1, k2, rfl, hd2, ?_, by omega, by omega, by omega, fun f rows d3 hsh hd3 => ?_⟩
  · have : (3 * k2 + 5) * (1 + k1 + 1) ≤ 17 * 9 := Nat.mul_le_mul (by omega) (by omega)
    omega
  have hd3 := hd3.mono (m := n + 200) (by
    have : (3 * k2 + 5) * (1 + k1 + 1) ≤ 17 * 9 := Nat.mul_le_mul (by omega) (by omega)
    omega)
  have mo := sh_mac hsh (by omega) (by omega)
  have rl : ∀ w : List Bool, w.length ≤ 7 → (runM f rows w).length ≤ 36 := fun w hw => by
    have := run_len hsh w
    have : k2 * (w.length + 2) ≤ 4 * 9 := Nat.mul_le_mul (by omega) (by omega)
    omega
  simp
  refine ⟨d3, n + 200, 8, rfl, hd3, by omega, by omega, by omega, fun k3 d4 hk3 hd4 => ?_⟩
  simp
  refine ⟨k3, rfl, by omega, ?_⟩
  simp
  have r12 : ∀ {ws : List (List Bool)} {B : Nat} (f : List Bool → List Bool), (∀ w ∈ ws, (f w).length ≤ B) → ws.length * (B + 1) ≤ 1048576 → Shows (.list (ws.map fun w => Wd (f w))) := fun {ws B} f h hB => by
    have := shows_ws (ws := ws.map f) (B := B) (fun w hw => by obtain ⟨u, hu, rfl⟩ := List.mem_map.mp hw; exact h u hu) (by simpa using hB)
    rw [List.map_map] at this
    exact this
  have mm : ∀ (ws : List (List Bool)) (f : List Bool → List Bool), (ws.map fun w => Wd (f w)) = (ws.map f).map Wd := fun ws f => by rw [List.map_map]; rfl
  have many : ∀ k, k ≤ 7 → (roadsTo k).length ≤ 255 := fun k hk => by
    rw [roads_many]
    have : 2 ^ (k + 1) ≤ 2 ^ 8 := Nat.pow_le_pow_right (by decide) (by omega)
    omega
  have m3 := many k3 (by omega)
  refine lc_at Wd (fun w => Wd (runM f rows w)) (roadsTo k3) rfl (fun w hw Q1 Q2 hQ => ?_) (by omega) ?_
  · have lw := roads_len hw
    have := rl w (by omega)
    simp
    refine ⟨f, rows, w, rfl, mo.2.2, mo.2.1, by omega, by omega, ?_⟩
    simp
    exact hQ _ rfl
  have due3 : Shows (.list ((roadsTo k3).map fun w => Wd (runM f rows w))) := r12 (B := 36) _ (fun w hw => rl w (by have := roads_len hw; omega)) (by omega)
  have tab : ∀ (k : Nat) (K : PyData → PyData → Prop), k ≤ 7 → (∀ d, d = .list ((roadsTo k).map fun w => Wd (runM f rows w)) → Apart [macD f rows, .int k] d → K d .none) → F_table_of [macD f rows, .int k] K := fun k K hk hK =>
    ⟨f, rows, k, rfl, mo, by omega, fun w hw => by have := rl w (by omega); omega, hK _ rfl (by rw [mm]; exact apart_tab mo.2.1 _)⟩
  have cp := cpy_mac f (rows := rows) (by have := hsh.2.1; omega)
  simp [cp, putN_mac]
  intro P
  refine tab k3 _ (by omega) fun d hdd hap => ⟨hap, ?_⟩
  subst hdd
  rw [mm, putN_ws, ← mm]
  intro p5
  simp [due3]
  have run1 : ∀ (w : List Bool) (K : PyData → PyData → Prop), w.length ≤ 7 → K (Wd (runM f rows w)) .none → F_law_bk_run [macD f rows, Wd w] K := fun w K hw hK =>
    ⟨f, rows, w, rfl, mo.2.2, mo.2.1, by omega, by have := rl w hw; omega, hK⟩
  refine ⟨by omega, 0, ixN_0 (by simp), ?_⟩
  simp
  refine tab 1 _ (by omega) fun d hdd hap => ⟨hap, ?_⟩
  subst hdd
  rw [mm, putN_ws, ← mm, roads_1]
  intro p6
  have sh1 : Shows (.list [Wd (runM f rows []), Wd (runM f rows [false]), Wd (runM f rows [true])]) := r12 (ws := [[], [false], [true]]) (B := 36) (runM f rows) (fun w hw => rl w (by simp at hw; rcases hw with rfl | rfl | rfl <;> simp)) (by decide)
  simp [sh1]
  refine run1 [] _ (by simp) ?_
  simp
  refine run1 [false] _ (by simp) ?_
  simp
  refine run1 [true] _ (by simp) ?_
  simp [sh1]
  refine tab k3 _ (by omega) fun d hdd hap => ⟨hap, ?_⟩
  subst hdd
  simp [due3]
  have hsR := sh_rev hsh
  have moR := sh_mac hsR (by omega) (by omega)
  have rlR : ∀ w : List Bool, w.length ≤ 7 → (runM f rows.reverse w).length ≤ 36 := fun w hw => by
    have := run_len hsR w
    have : k2 * (w.length + 2) ≤ 4 * 9 := Nat.mul_le_mul (by omega) (by omega)
    omega
  have m2 := many 2 (by omega)
  have m4 := many 4 (by omega)
  have due2 : Shows (.list ((roadsTo 2).map fun w => Wd (runM f rows.reverse w))) := r12 (B := 36) _ (fun w hw => rlR w (by have := roads_len hw; omega)) (by omega)
  have tabR : ∀ K : PyData → PyData → Prop, (∀ d, d = .list ((roadsTo 2).map fun w => Wd (runM f rows.reverse w)) → Apart [.int 2, macD f rows.reverse] d → K d .none) → F_table_of [macD f rows.reverse, .int 2] K := fun K hK =>
    ⟨f, rows.reverse, 2, rfl, moR, by omega, fun w hw => by have := rlR w (by omega); omega, hK _ rfl (by rw [mm]; exact apart_swap (apart_tab moR.2.1 _))⟩
  have eR : ∀ d, d = (PyData.tuple [Wd f, .list (rows.map rowD).reverse]) → d = macD f rows.reverse := fun d h => by rw [h, ← List.map_reverse]; rfl
  have flr := flats_rows rows
  simp [macD, flr]
  rw [eR _ rfl]
  refine tabR _ fun d hdd hap => ⟨hap, ?_⟩
  subst hdd
  simp [due2]
  refine ⟨2, rfl, by omega, ?_⟩
  simp
  refine lc_at Wd (fun w => Wd (runM f rows.reverse w)) (roadsTo 2) rfl (fun w hw Q1 Q2 hQ => ?_) (by omega) ?_
  · have lw := roads_len hw
    have := rlR w (by omega)
    simp
    refine ⟨f, rows.reverse, w, rfl, moR.2.2, moR.2.1, by omega, by omega, ?_⟩
    simp
    exact hQ _ rfl
  simp [due2]
  refine ⟨d4, n + 201, 12, 12, rfl, hd4, by omega, by omega, by omega, by omega, fun m d5 hm hd5 => ?_⟩
  simp
  refine ⟨4, rfl, by omega, ?_⟩
  simp
  obtain ⟨ma, mb, mc, md, mdet, msz, mg⟩ := hm
  have ms : msum m ≤ 48 := by simp only [msum]; omega
  have val : ∀ w : List Bool, w.length ≤ 4 → 0 < (ap m (numB w)).1 ∧ 0 < (ap m (numB w)).2 ∧ (ap m (numB w)).1 ≤ 384 ∧ (ap m (numB w)).2 ≤ 384 := fun w hw => by
    have p := num_pos w
    have su := num_sum w
    have pw : 2 ^ (w.length + 1) ≤ 2 ^ 5 := Nat.pow_le_pow_right (by decide) (by omega)
    obtain ⟨a1, a2⟩ := ap_pos mdet p.1 p.2
    refine ⟨a1, a2, ?_, ?_⟩
    · have h1 := Nat.mul_le_mul_right (numB w).1 ma
      have h2 := Nat.mul_le_mul_right (numB w).2 mb
      show m.a * (numB w).1 + m.b * (numB w).2 ≤ 384
      omega
    · have h1 := Nat.mul_le_mul_right (numB w).1 mc
      have h2 := Nat.mul_le_mul_right (numB w).2 md
      show m.c * (numB w).1 + m.d * (numB w).2 ≤ 384
      omega
  have vlen : ∀ w : List Bool, w.length ≤ 4 → (roadV (ap m (numB w))).length ≤ 768 := fun w hw => by
    obtain ⟨a1, a2, a3, a4⟩ := val w hw
    have := roadV_len a1 a2
    omega
  refine lc_at Wd (fun w => Wd (roadV (ap m (numB w)))) (roadsTo 4) rfl (fun w hw Q1 Q2 hQ => ?_) (by omega) ?_
  · have lw := roads_len hw
    obtain ⟨a1, a2, a3, a4⟩ := val w lw
    have vl := vlen w lw
    simp
    refine ⟨w, rfl, by omega, ?_⟩
    simp
    refine ⟨m, numB w, rfl, by omega, a1, a2, by omega, by omega, ?_⟩
    simp
    refine ⟨roadV (ap m (numB w)), by rw [roadV_num a1 a2], by omega, ?_⟩
    simp
    exact hQ _ rfl
  have due4 : Shows (.list ((roadsTo 4).map fun w => Wd (roadV (ap m (numB w))))) := r12 (B := 768) _ (fun w hw => vlen w (roads_len hw)) (by omega)
  simp
  refine ⟨m, rfl, mdet, by omega, by omega, mg, ?_⟩
  simp
  have moM := mach_ok mdet (by omega) (by omega)
  have e4 : ((roadsTo 4).map fun w => Wd (runM (leftOver m).1 (machRows m) w)) = ((roadsTo 4).map fun w => Wd (roadV (ap m (numB w)))) := by
    congr 1
    funext w
    rw [mach_run mdet]
  refine ⟨(leftOver m).1, machRows m, 4, rfl, moM, by omega, fun w hw => by rw [mach_run mdet]; have := vlen w (by omega); omega, ?_⟩
  rw [e4]
  refine ⟨by rw [mm]; exact apart_tab moM.2.1 _, ?_⟩
  simp [due4]
  exact hq _
theorem pl_right (g s : Int) (q : PyData → PyData → Prop) (hg : 0 ≤ g) (hs : 0 ≤ s) (hs2 : s < 1000000000000000000000007) (h : ∀ e, q (.bool true) e) : F_law_right [.list [.int g, .int s, .int 0]] q :=
  ⟨_, 0, rfl, ⟨g, s, 0, rfl, hg, hs, hs2, by omega, by omega⟩, by omega, h⟩
end DL
set_option maxHeartbeats 0
namespace DL
open PySem PySem.Spec PyProof.Rows L2
/-! ### the head -/
def d_divisor_of : He.DefD := ⟨("divisor_of", none), "divisor_of", "divisor_of", defArgs s_divisor_of, defBody s_divisor_of, defScope s_divisor_of, [], []⟩
def d_has_turns_alone : He.DefD := ⟨("has_turns_alone", none), "has_turns_alone", "has_turns_alone", defArgs s_has_turns_alone, defBody s_has_turns_alone, defScope s_has_turns_alone, [], []⟩
def d_check_road : He.DefD := ⟨("check_road", none), "check_road", "check_road", defArgs s_check_road, defBody s_check_road, defScope s_check_road, [], []⟩
def d_check_fraction : He.DefD := ⟨("check_fraction", none), "check_fraction", "check_fraction", defArgs s_check_fraction, defBody s_check_fraction, defScope s_check_fraction, [], []⟩
def d_check_map : He.DefD := ⟨("check_map", none), "check_map", "check_map", defArgs s_check_map, defBody s_check_map, defScope s_check_map, [], []⟩
def d_check_number : He.DefD := ⟨("check_number", none), "check_number", "check_number", defArgs s_check_number, defBody s_check_number, defScope s_check_number, [], []⟩
def d_is_move : He.DefD := ⟨("is_move", none), "is_move", "is_move", defArgs s_is_move, defBody s_is_move, defScope s_is_move, [], []⟩
def d_check_machine : He.DefD := ⟨("check_machine", none), "check_machine", "check_machine", defArgs s_check_machine, defBody s_check_machine, defScope s_check_machine, [], []⟩
def d_move_of : He.DefD := ⟨("move_of", none), "move_of", "move_of", defArgs s_move_of, defBody s_move_of, defScope s_move_of, [], []⟩
def d_walked_on : He.DefD := ⟨("walked_on", none), "walked_on", "walked_on", defArgs s_walked_on, defBody s_walked_on, defScope s_walked_on, [], []⟩
def d_road_of : He.DefD := ⟨("road_of", none), "road_of", "road_of", defArgs s_road_of, defBody s_road_of, defScope s_road_of, [], []⟩
def d_run : He.DefD := ⟨("run", none), "run", "run", defArgs s_run, defBody s_run, defScope s_run, [], []⟩
def d_roads_to : He.DefD := ⟨("roads_to", none), "roads_to", "roads_to", defArgs s_roads_to, defBody s_roads_to, defScope s_roads_to, [], []⟩
def d_table_of : He.DefD := ⟨("table_of", none), "table_of", "table_of", defArgs s_table_of, defBody s_table_of, defScope s_table_of, [], []⟩
def d_divided : He.DefD := ⟨("divided", none), "divided", "divided", defArgs s_divided, defBody s_divided, defScope s_divided, [], []⟩
def d_image : He.DefD := ⟨("image", none), "image", "image", defArgs s_image, defBody s_image, defScope s_image, [], []⟩
def d_left_over : He.DefD := ⟨("left_over", none), "left_over", "left_over", defArgs s_left_over, defBody s_left_over, defScope s_left_over, [], []⟩
def d_read_turn : He.DefD := ⟨("read_turn", none), "read_turn", "read_turn", defArgs s_read_turn, defBody s_read_turn, defScope s_read_turn, [], []⟩
def d_gone_through : He.DefD := ⟨("gone_through", none), "gone_through", "gone_through", defArgs s_gone_through, defBody s_gone_through, defScope s_gone_through, [], []⟩
def d_machine_of : He.DefD := ⟨("machine_of", none), "machine_of", "machine_of", defArgs s_machine_of, defBody s_machine_of, defScope s_machine_of, [], []⟩
def d_law_coin : He.DefD := ⟨("_law_coin", none), "_law_coin", "_law_coin", defArgs s_law_coin, defBody s_law_coin, defScope s_law_coin, [], []⟩
def d_law_bk_way : He.DefD := ⟨("_law_bk_way", none), "_law_bk_way", "_law_bk_way", defArgs s_law_bk_way, defBody s_law_bk_way, defScope s_law_bk_way, [], []⟩
def d_law_bk_shape : He.DefD := ⟨("_law_bk_shape", none), "_law_bk_shape", "_law_bk_shape", defArgs s_law_bk_shape, defBody s_law_bk_shape, defScope s_law_bk_shape, [], []⟩
def d_law_bk_copied : He.DefD := ⟨("_law_bk_copied", none), "_law_bk_copied", "_law_bk_copied", defArgs s_law_bk_copied, defBody s_law_bk_copied, defScope s_law_bk_copied, [], []⟩
def d_law_bk_texts : He.DefD := ⟨("_law_bk_texts", none), "_law_bk_texts", "_law_bk_texts", defArgs s_law_bk_texts, defBody s_law_bk_texts, defScope s_law_bk_texts, [], []⟩
def d_law_bk_walk : He.DefD := ⟨("_law_bk_walk", none), "_law_bk_walk", "_law_bk_walk", defArgs s_law_bk_walk, defBody s_law_bk_walk, defScope s_law_bk_walk, [], []⟩
def d_law_bk_run : He.DefD := ⟨("_law_bk_run", none), "_law_bk_run", "_law_bk_run", defArgs s_law_bk_run, defBody s_law_bk_run, defScope s_law_bk_run, [], []⟩
def d_law_bk_share : He.DefD := ⟨("_law_bk_share", none), "_law_bk_share", "_law_bk_share", defArgs s_law_bk_share, defBody s_law_bk_share, defScope s_law_bk_share, [], []⟩
def d_law_bk_number : He.DefD := ⟨("_law_bk_number", none), "_law_bk_number", "_law_bk_number", defArgs s_law_bk_number, defBody s_law_bk_number, defScope s_law_bk_number, [], []⟩
def d_law_bk_least : He.DefD := ⟨("_law_bk_least", none), "_law_bk_least", "_law_bk_least", defArgs s_law_bk_least, defBody s_law_bk_least, defScope s_law_bk_least, [], []⟩
def d_law_bk_sent : He.DefD := ⟨("_law_bk_sent", none), "_law_bk_sent", "_law_bk_sent", defArgs s_law_bk_sent, defBody s_law_bk_sent, defScope s_law_bk_sent, [], []⟩
def d_law_bk_worth : He.DefD := ⟨("_law_bk_worth", none), "_law_bk_worth", "_law_bk_worth", defArgs s_law_bk_worth, defBody s_law_bk_worth, defScope s_law_bk_worth, [], []⟩
def d_law_bk_chart : He.DefD := ⟨("_law_bk_chart", none), "_law_bk_chart", "_law_bk_chart", defArgs s_law_bk_chart, defBody s_law_bk_chart, defScope s_law_bk_chart, [], []⟩
def d_law_bk_road : He.DefD := ⟨("_law_bk_road", none), "_law_bk_road", "_law_bk_road", defArgs s_law_bk_road, defBody s_law_bk_road, defScope s_law_bk_road, [], []⟩
def d_law_right : He.DefD := ⟨("_law_right", none), "_law_right", "_law_right", defArgs s_law_right, defBody s_law_right, defScope s_law_right, [], []⟩
def d_law_purse : He.DefD := ⟨("_law_purse", none), "_law_purse", "_law_purse", defArgs s_law_purse, defBody s_law_purse, defScope s_law_purse, [], []⟩
def d_law : He.DefD := ⟨("law", none), "law", "law", defArgs s_law, defBody s_law, defScope s_law, [], []⟩
def fnL : List He.DefD := [d_divisor_of, d_has_turns_alone, d_check_road, d_check_fraction, d_check_map, d_check_number, d_is_move, d_check_machine, d_move_of, d_walked_on, d_road_of, d_run, d_roads_to, d_table_of, d_divided, d_image, d_left_over, d_read_turn, d_gone_through, d_machine_of, d_law_coin, d_law_bk_way, d_law_bk_shape, d_law_bk_copied, d_law_bk_texts, d_law_bk_walk, d_law_bk_run, d_law_bk_share, d_law_bk_number, d_law_bk_least, d_law_bk_sent, d_law_bk_worth, d_law_bk_chart, d_law_bk_road, d_law_right, d_law_purse, d_law]
def faL : List He.Fa := [.glo "divisor_of", .glo "has_turns_alone", .glo "check_road", .glo "check_fraction", .glo "check_map", .glo "check_number", .glo "is_move", .glo "check_machine", .glo "move_of", .glo "walked_on", .glo "road_of", .glo "run", .glo "roads_to", .glo "table_of", .glo "divided", .glo "image", .glo "left_over", .glo "read_turn", .glo "gone_through", .glo "machine_of", .glo "_law_coin", .glo "_law_bk_way", .glo "_law_bk_shape", .glo "_law_bk_copied", .glo "_law_bk_texts", .glo "_law_bk_walk", .glo "_law_bk_run", .glo "_law_bk_share", .glo "_law_bk_number", .glo "_law_bk_least", .glo "_law_bk_sent", .glo "_law_bk_worth", .glo "_law_bk_chart", .glo "_law_bk_road", .glo "_law_right", .glo "_law_purse", .glo "law", .free "abs", .free "all", .free "min", .free "len", .free "tuple", .free "zip", .free "int", .free "range", .free "isinstance", .free "list", .free "max", .free "repr", .free "reversed", .str "TURNS" (mk [76, 82])]
abbrev RowL : PySem.W.OpenRow := PySem.W.OpenLaw.row PySem.Challenge.rw_leftroads_k81_tables_of_machines
def loose0 : List PySem.Str := ["RoadError", "InvalidRoad", "InvalidFraction", "InvalidMap", "InvalidMachine", "InvalidNumber", "TURNS", "divisor_of", "has_turns_alone", "check_road", "check_fraction", "check_map", "check_number", "is_move", "check_machine", "move_of", "walked_on", "road_of", "run", "roads_to", "table_of", "divided", "image", "left_over", "read_turn", "gone_through", "machine_of", "_law_purse", "_law_coin", "_law_bk_way"]
def loose1 : List PySem.Str := ["_law_bk_shape", "_law_bk_copied", "_law_bk_texts", "_law_bk_walk", "_law_bk_run", "_law_bk_share", "_law_bk_number", "_law_bk_least", "_law_bk_sent", "_law_bk_worth", "_law_bk_chart", "_law_bk_road", "_law_right"]
def looseL : List PySem.Str := loose0 ++ loose1
abbrev hkL : PySem.W.Hook := He.hookD 4 faL fnL
def obL (s : PySem.W.SharedT) : He.AlD := He.obsDG 4 faL fnL (HandSHeadRun.getT s)
theorem obL_eq (s : PySem.W.SharedT) : obL s = hkL.obs s.abs := He.obsDG_eq (HandSHeadRun.getT_eq s)
theorem runL (w : World) : HandSHeadRun.RunEq RowL (PySem.W.view RowL.prog [51]) hkL obL 3000 looseL w := by
  intro os
  kernel_rfl
theorem factsL {P : Program} {w : World} {K : PySem.W.Frag} {h : Heap} {mg : Str → Option Value} {f : Addr} (X : K.In h) (G : h.Ns mainGlobals mg) (hfa : mg ("law" : Str) = some (.ref f)) (c : He.SaysD faL fnL K) :
    ∃ fd : FuncData, (∀ (s : Shared) (v : Value), BindsTo s fd ⟨[v], []⟩ [("script", v)]) ∧ ∀ base : Heap, K.In base → base.Ns mainGlobals mg → FnG P w K mg base 7 f fd ["script"] (spLaw K) := by
  obtain ⟨fd_divisor_of, Fn_divisor_of⟩ := c.def_ 0 (d := d_divisor_of) rfl
  have m_divisor_of := He.glo_ok X G (c.fact 0 (f := .glo "divisor_of") rfl)
  obtain ⟨fd_has_turns_alone, Fn_has_turns_alone⟩ := c.def_ 1 (d := d_has_turns_alone) rfl
  have m_has_turns_alone := He.glo_ok X G (c.fact 1 (f := .glo "has_turns_alone") rfl)
  obtain ⟨fd_check_road, Fn_check_road⟩ := c.def_ 2 (d := d_check_road) rfl
  have m_check_road := He.glo_ok X G (c.fact 2 (f := .glo "check_road") rfl)
  obtain ⟨fd_check_fraction, Fn_check_fraction⟩ := c.def_ 3 (d := d_check_fraction) rfl
  have m_check_fraction := He.glo_ok X G (c.fact 3 (f := .glo "check_fraction") rfl)
  obtain ⟨fd_check_map, Fn_check_map⟩ := c.def_ 4 (d := d_check_map) rfl
  have m_check_map := He.glo_ok X G (c.fact 4 (f := .glo "check_map") rfl)
  obtain ⟨fd_check_number, Fn_check_number⟩ := c.def_ 5 (d := d_check_number) rfl
  have m_check_number := He.glo_ok X G (c.fact 5 (f := .glo "check_number") rfl)
  obtain ⟨fd_is_move, Fn_is_move⟩ := c.def_ 6 (d := d_is_move) rfl
  have m_is_move := He.glo_ok X G (c.fact 6 (f := .glo "is_move") rfl)
  obtain ⟨fd_check_machine, Fn_check_machine⟩ := c.def_ 7 (d := d_check_machine) rfl
  have m_check_machine := He.glo_ok X G (c.fact 7 (f := .glo "check_machine") rfl)
  obtain ⟨fd_move_of, Fn_move_of⟩ := c.def_ 8 (d := d_move_of) rfl
  have m_move_of := He.glo_ok X G (c.fact 8 (f := .glo "move_of") rfl)
  obtain ⟨fd_walked_on, Fn_walked_on⟩ := c.def_ 9 (d := d_walked_on) rfl
  have m_walked_on := He.glo_ok X G (c.fact 9 (f := .glo "walked_on") rfl)
  obtain ⟨fd_road_of, Fn_road_of⟩ := c.def_ 10 (d := d_road_of) rfl
  have m_road_of := He.glo_ok X G (c.fact 10 (f := .glo "road_of") rfl)
  obtain ⟨fd_run, Fn_run⟩ := c.def_ 11 (d := d_run) rfl
  have m_run := He.glo_ok X G (c.fact 11 (f := .glo "run") rfl)
  obtain ⟨fd_roads_to, Fn_roads_to⟩ := c.def_ 12 (d := d_roads_to) rfl
  have m_roads_to := He.glo_ok X G (c.fact 12 (f := .glo "roads_to") rfl)
  obtain ⟨fd_table_of, Fn_table_of⟩ := c.def_ 13 (d := d_table_of) rfl
  have m_table_of := He.glo_ok X G (c.fact 13 (f := .glo "table_of") rfl)
  obtain ⟨fd_divided, Fn_divided⟩ := c.def_ 14 (d := d_divided) rfl
  have m_divided := He.glo_ok X G (c.fact 14 (f := .glo "divided") rfl)
  obtain ⟨fd_image, Fn_image⟩ := c.def_ 15 (d := d_image) rfl
  have m_image := He.glo_ok X G (c.fact 15 (f := .glo "image") rfl)
  obtain ⟨fd_left_over, Fn_left_over⟩ := c.def_ 16 (d := d_left_over) rfl
  have m_left_over := He.glo_ok X G (c.fact 16 (f := .glo "left_over") rfl)
  obtain ⟨fd_read_turn, Fn_read_turn⟩ := c.def_ 17 (d := d_read_turn) rfl
  have m_read_turn := He.glo_ok X G (c.fact 17 (f := .glo "read_turn") rfl)
  obtain ⟨fd_gone_through, Fn_gone_through⟩ := c.def_ 18 (d := d_gone_through) rfl
  have m_gone_through := He.glo_ok X G (c.fact 18 (f := .glo "gone_through") rfl)
  obtain ⟨fd_machine_of, Fn_machine_of⟩ := c.def_ 19 (d := d_machine_of) rfl
  have m_machine_of := He.glo_ok X G (c.fact 19 (f := .glo "machine_of") rfl)
  obtain ⟨fd_law_coin, Fn_law_coin⟩ := c.def_ 20 (d := d_law_coin) rfl
  have m_law_coin := He.glo_ok X G (c.fact 20 (f := .glo "_law_coin") rfl)
  obtain ⟨fd_law_bk_way, Fn_law_bk_way⟩ := c.def_ 21 (d := d_law_bk_way) rfl
  have m_law_bk_way := He.glo_ok X G (c.fact 21 (f := .glo "_law_bk_way") rfl)
  obtain ⟨fd_law_bk_shape, Fn_law_bk_shape⟩ := c.def_ 22 (d := d_law_bk_shape) rfl
  have m_law_bk_shape := He.glo_ok X G (c.fact 22 (f := .glo "_law_bk_shape") rfl)
  obtain ⟨fd_law_bk_copied, Fn_law_bk_copied⟩ := c.def_ 23 (d := d_law_bk_copied) rfl
  have m_law_bk_copied := He.glo_ok X G (c.fact 23 (f := .glo "_law_bk_copied") rfl)
  obtain ⟨fd_law_bk_texts, Fn_law_bk_texts⟩ := c.def_ 24 (d := d_law_bk_texts) rfl
  have m_law_bk_texts := He.glo_ok X G (c.fact 24 (f := .glo "_law_bk_texts") rfl)
  obtain ⟨fd_law_bk_walk, Fn_law_bk_walk⟩ := c.def_ 25 (d := d_law_bk_walk) rfl
  have m_law_bk_walk := He.glo_ok X G (c.fact 25 (f := .glo "_law_bk_walk") rfl)
  obtain ⟨fd_law_bk_run, Fn_law_bk_run⟩ := c.def_ 26 (d := d_law_bk_run) rfl
  have m_law_bk_run := He.glo_ok X G (c.fact 26 (f := .glo "_law_bk_run") rfl)
  obtain ⟨fd_law_bk_share, Fn_law_bk_share⟩ := c.def_ 27 (d := d_law_bk_share) rfl
  have m_law_bk_share := He.glo_ok X G (c.fact 27 (f := .glo "_law_bk_share") rfl)
  obtain ⟨fd_law_bk_number, Fn_law_bk_number⟩ := c.def_ 28 (d := d_law_bk_number) rfl
  have m_law_bk_number := He.glo_ok X G (c.fact 28 (f := .glo "_law_bk_number") rfl)
  obtain ⟨fd_law_bk_least, Fn_law_bk_least⟩ := c.def_ 29 (d := d_law_bk_least) rfl
  have m_law_bk_least := He.glo_ok X G (c.fact 29 (f := .glo "_law_bk_least") rfl)
  obtain ⟨fd_law_bk_sent, Fn_law_bk_sent⟩ := c.def_ 30 (d := d_law_bk_sent) rfl
  have m_law_bk_sent := He.glo_ok X G (c.fact 30 (f := .glo "_law_bk_sent") rfl)
  obtain ⟨fd_law_bk_worth, Fn_law_bk_worth⟩ := c.def_ 31 (d := d_law_bk_worth) rfl
  have m_law_bk_worth := He.glo_ok X G (c.fact 31 (f := .glo "_law_bk_worth") rfl)
  obtain ⟨fd_law_bk_chart, Fn_law_bk_chart⟩ := c.def_ 32 (d := d_law_bk_chart) rfl
  have m_law_bk_chart := He.glo_ok X G (c.fact 32 (f := .glo "_law_bk_chart") rfl)
  obtain ⟨fd_law_bk_road, Fn_law_bk_road⟩ := c.def_ 33 (d := d_law_bk_road) rfl
  have m_law_bk_road := He.glo_ok X G (c.fact 33 (f := .glo "_law_bk_road") rfl)
  obtain ⟨fd_law_right, Fn_law_right⟩ := c.def_ 34 (d := d_law_right) rfl
  have m_law_right := He.glo_ok X G (c.fact 34 (f := .glo "_law_right") rfl)
  obtain ⟨fd_law_purse, Fn_law_purse⟩ := c.def_ 35 (d := d_law_purse) rfl
  have m_law_purse := He.glo_ok X G (c.fact 35 (f := .glo "_law_purse") rfl)
  obtain ⟨fd_law, Fn_law⟩ := c.def_ 36 (d := d_law) rfl
  have e := hfa.symm.trans (He.glo_ok X G (c.fact 36 (f := .glo "law") rfl))
  cases e
  have b_abs := He.free_ok X G (c.fact 37 (f := .free "abs") rfl)
  have b_all := He.free_ok X G (c.fact 38 (f := .free "all") rfl)
  have b_min := He.free_ok X G (c.fact 39 (f := .free "min") rfl)
  have b_len := He.free_ok X G (c.fact 40 (f := .free "len") rfl)
  have b_tuple := He.free_ok X G (c.fact 41 (f := .free "tuple") rfl)
  have b_zip := He.free_ok X G (c.fact 42 (f := .free "zip") rfl)
  have b_int := He.free_ok X G (c.fact 43 (f := .free "int") rfl)
  have b_range := He.free_ok X G (c.fact 44 (f := .free "range") rfl)
  have b_isinstance := He.free_ok X G (c.fact 45 (f := .free "isinstance") rfl)
  have b_list := He.free_ok X G (c.fact 46 (f := .free "list") rfl)
  have b_max := He.free_ok X G (c.fact 47 (f := .free "max") rfl)
  have b_repr := He.free_ok X G (c.fact 48 (f := .free "repr") rfl)
  have b_reversed := He.free_ok X G (c.fact 49 (f := .free "reversed") rfl)
  have c_TURNS := He.str_ok X G (c.fact 50 (f := .str "TURNS" (mk [76, 82])) rfl)
  have bd_divisor_of : L2.Binds K fd_divisor_of ["numbers"] [] := Fn_divisor_of.bindsN fun _ _ _ _ _ _ us hl => match us, hl with | [_], _ => rfl
  have bd_has_turns_alone : L2.Binds K fd_has_turns_alone ["word"] [] := Fn_has_turns_alone.bindsN fun _ _ _ _ _ _ us hl => match us, hl with | [_], _ => rfl
  have bd_check_road : L2.Binds K fd_check_road ["road"] [] := Fn_check_road.bindsN fun _ _ _ _ _ _ us hl => match us, hl with | [_], _ => rfl
  have bd_check_fraction : L2.Binds K fd_check_fraction ["fraction"] [] := Fn_check_fraction.bindsN fun _ _ _ _ _ _ us hl => match us, hl with | [_], _ => rfl
  have bd_check_map : L2.Binds K fd_check_map ["one"] [] := Fn_check_map.bindsN fun _ _ _ _ _ _ us hl => match us, hl with | [_], _ => rfl
  have bd_check_number : L2.Binds K fd_check_number ["number", "least"] [] := Fn_check_number.bindsN fun _ _ _ _ _ _ us hl => match us, hl with | [_, _], _ => rfl
  have bd_is_move : L2.Binds K fd_is_move ["move", "many"] [] := Fn_is_move.bindsN fun _ _ _ _ _ _ us hl => match us, hl with | [_, _], _ => rfl
  have bd_check_machine : L2.Binds K fd_check_machine ["machine"] [] := Fn_check_machine.bindsN fun _ _ _ _ _ _ us hl => match us, hl with | [_], _ => rfl
  have bd_move_of : L2.Binds K fd_move_of ["rows", "state", "turn"] [] := Fn_move_of.bindsN fun _ _ _ _ _ _ us hl => match us, hl with | [_, _, _], _ => rfl
  have bd_walked_on : L2.Binds K fd_walked_on ["rows", "state", "road"] [] := Fn_walked_on.bindsN fun _ _ _ _ _ _ us hl => match us, hl with | [_, _, _], _ => rfl
  have bd_road_of : L2.Binds K fd_road_of ["fraction"] [] := Fn_road_of.bindsN fun _ _ _ _ _ _ us hl => match us, hl with | [_], _ => rfl
  have bd_run : L2.Binds K fd_run ["machine", "road"] [] := Fn_run.bindsN fun _ _ _ _ _ _ us hl => match us, hl with | [_, _], _ => rfl
  have bd_roads_to : L2.Binds K fd_roads_to ["length"] [] := Fn_roads_to.bindsN fun _ _ _ _ _ _ us hl => match us, hl with | [_], _ => rfl
  have bd_table_of : L2.Binds K fd_table_of ["machine", "length"] [] := Fn_table_of.bindsN fun _ _ _ _ _ _ us hl => match us, hl with | [_, _], _ => rfl
  have bd_divided : L2.Binds K fd_divided ["numbers"] [] := Fn_divided.bindsN fun _ _ _ _ _ _ us hl => match us, hl with | [_], _ => rfl
  have bd_image : L2.Binds K fd_image ["one", "fraction"] [] := Fn_image.bindsN fun _ _ _ _ _ _ us hl => match us, hl with | [_, _], _ => rfl
  have bd_left_over : L2.Binds K fd_left_over ["one"] [] := Fn_left_over.bindsN fun _ _ _ _ _ _ us hl => match us, hl with | [_], _ => rfl
  have bd_read_turn : L2.Binds K fd_read_turn ["one", "turn"] [] := Fn_read_turn.bindsN fun _ _ _ _ _ _ us hl => match us, hl with | [_, _], _ => rfl
  have bd_gone_through : L2.Binds K fd_gone_through ["one"] [] := Fn_gone_through.bindsN fun _ _ _ _ _ _ us hl => match us, hl with | [_], _ => rfl
  have bd_machine_of : L2.Binds K fd_machine_of ["one"] [] := Fn_machine_of.bindsN fun _ _ _ _ _ _ us hl => match us, hl with | [_], _ => rfl
  have bd_law_coin : L2.Binds K fd_law_coin ["purse", "many"] [] := Fn_law_coin.bindsN fun _ _ _ _ _ _ us hl => match us, hl with | [_, _], _ => rfl
  have bd_law_bk_way : L2.Binds K fd_law_bk_way ["purse", "top"] [] := Fn_law_bk_way.bindsN fun _ _ _ _ _ _ us hl => match us, hl with | [_, _], _ => rfl
  have bd_law_bk_shape : L2.Binds K fd_law_bk_shape ["purse", "many", "top"] [] := Fn_law_bk_shape.bindsN fun _ _ _ _ _ _ us hl => match us, hl with | [_, _, _], _ => rfl
  have bd_law_bk_copied : L2.Binds K fd_law_bk_copied ["thing"] [] := Fn_law_bk_copied.bindsN fun _ _ _ _ _ _ us hl => match us, hl with | [_], _ => rfl
  have bd_law_bk_texts : L2.Binds K fd_law_bk_texts ["top"] [] := Fn_law_bk_texts.bindsN fun _ _ _ _ _ _ us hl => match us, hl with | [_], _ => rfl
  have bd_law_bk_walk : L2.Binds K fd_law_bk_walk ["shape", "way"] [] := Fn_law_bk_walk.bindsN fun _ _ _ _ _ _ us hl => match us, hl with | [_, _], _ => rfl
  have bd_law_bk_run : L2.Binds K fd_law_bk_run ["shape", "way"] [] := Fn_law_bk_run.bindsN fun _ _ _ _ _ _ us hl => match us, hl with | [_, _], _ => rfl
  have bd_law_bk_share : L2.Binds K fd_law_bk_share ["near", "far"] [] := Fn_law_bk_share.bindsN fun _ _ _ _ _ _ us hl => match us, hl with | [_, _], _ => rfl
  have bd_law_bk_number : L2.Binds K fd_law_bk_number ["way"] [] := Fn_law_bk_number.bindsN fun _ _ _ _ _ _ us hl => match us, hl with | [_], _ => rfl
  have bd_law_bk_least : L2.Binds K fd_law_bk_least ["four"] [] := Fn_law_bk_least.bindsN fun _ _ _ _ _ _ us hl => match us, hl with | [_], _ => rfl
  have bd_law_bk_sent : L2.Binds K fd_law_bk_sent ["chart", "pair"] [] := Fn_law_bk_sent.bindsN fun _ _ _ _ _ _ us hl => match us, hl with | [_, _], _ => rfl
  have bd_law_bk_worth : L2.Binds K fd_law_bk_worth ["four"] [] := Fn_law_bk_worth.bindsN fun _ _ _ _ _ _ us hl => match us, hl with | [_], _ => rfl
  have bd_law_bk_chart : L2.Binds K fd_law_bk_chart ["purse", "top", "most_size"] [] := Fn_law_bk_chart.bindsN fun _ _ _ _ _ _ us hl => match us, hl with | [_, _, _], _ => rfl
  have bd_law_bk_road : L2.Binds K fd_law_bk_road ["pair"] [] := Fn_law_bk_road.bindsN fun _ _ _ _ _ _ us hl => match us, hl with | [_], _ => rfl
  have bd_law_right : L2.Binds K fd_law_right ["purse"] [] := Fn_law_right.bindsN fun _ _ _ _ _ _ us hl => match us, hl with | [_], _ => rfl
  have bd_law_purse : L2.Binds K fd_law_purse ["script", "place"] [] := Fn_law_purse.bindsN fun _ _ _ _ _ _ us hl => match us, hl with | [_, _], _ => rfl
  have b := FunD.bindsA (ps := ["script"]) Fn_law fun _ _ _ _ _ _ us hl => match us, hl with | [_], _ => rfl
  refine ⟨fd_law, fun s v => b s [v] rfl, fun base _ _ => ?_⟩
  have k_divisor_of : Know P w K mg base "divisor_of" 1 ["numbers"] false 1 F_divisor_of := ⟨_, _, m_divisor_of, Fn_divisor_of.kp, bd_divisor_of, ok_divisor_of Fn_divisor_of b_abs pl_divisor_of⟩
  have k_has_turns_alone : Know P w K mg base "has_turns_alone" 1 ["word"] false 1 F_has_turns_alone := ⟨_, _, m_has_turns_alone, Fn_has_turns_alone.kp, bd_has_turns_alone, ok_has_turns_alone Fn_has_turns_alone b_all c_TURNS pl_has_turns_alone⟩
  have k_check_road : Know P w K mg base "check_road" 2 ["road"] false 1 F_check_road := ⟨_, _, m_check_road, Fn_check_road.kp, bd_check_road, ok_check_road Fn_check_road k_has_turns_alone pl_check_road⟩
  have k_check_fraction : Know P w K mg base "check_fraction" 2 ["fraction"] false 1 F_check_fraction := ⟨_, _, m_check_fraction, Fn_check_fraction.kp, bd_check_fraction, ok_check_fraction Fn_check_fraction k_divisor_of b_min pl_check_fraction⟩
  have k_check_map : Know P w K mg base "check_map" 2 ["one"] false 1 F_check_map := ⟨_, _, m_check_map, Fn_check_map.kp, bd_check_map, ok_check_map Fn_check_map k_divisor_of b_min pl_check_map⟩
  have k_check_number : Know P w K mg base "check_number" 1 ["number", "least"] false 2 F_check_number := ⟨_, _, m_check_number, Fn_check_number.kp, bd_check_number, ok_check_number Fn_check_number pl_check_number⟩
  have k_is_move : Know P w K mg base "is_move" 2 ["move", "many"] false 2 F_is_move := ⟨_, _, m_is_move, Fn_is_move.kp, bd_is_move, ok_is_move Fn_is_move k_has_turns_alone pl_is_move⟩
  have k_check_machine : Know P w K mg base "check_machine" 3 ["machine"] false 1 F_check_machine := ⟨_, _, m_check_machine, Fn_check_machine.kp, bd_check_machine, ok_check_machine Fn_check_machine k_has_turns_alone k_is_move b_len pl_check_machine⟩
  have k_move_of : Know P w K mg base "move_of" 1 ["rows", "state", "turn"] false 3 F_move_of := ⟨_, _, m_move_of, Fn_move_of.kp, bd_move_of, ok_move_of Fn_move_of pl_move_of⟩
  have k_walked_on : Know P w K mg base "walked_on" 2 ["rows", "state", "road"] false 3 F_walked_on := ⟨_, _, m_walked_on, Fn_walked_on.kp, bd_walked_on, ok_walked_on Fn_walked_on k_move_of pl_walked_on⟩
  have k_road_of : Know P w K mg base "road_of" 3 ["fraction"] false 1 F_road_of := ⟨_, _, m_road_of, Fn_road_of.kp, bd_road_of, ok_road_of Fn_road_of k_check_fraction pl_road_of⟩
  have k_run : Know P w K mg base "run" 4 ["machine", "road"] false 2 F_run := ⟨_, _, m_run, Fn_run.kp, bd_run, ok_run Fn_run k_check_machine k_check_road k_walked_on pl_run⟩
  have k_roads_to : Know P w K mg base "roads_to" 1 ["length"] false 1 F_roads_to := ⟨_, _, m_roads_to, Fn_roads_to.kp, bd_roads_to, ok_roads_to Fn_roads_to b_len pl_roads_to⟩
  have k_table_of : Know P w K mg base "table_of" 5 ["machine", "length"] false 2 F_table_of := ⟨_, _, m_table_of, Fn_table_of.kp, bd_table_of, ok_table_of Fn_table_of k_check_machine k_check_number k_roads_to k_run pl_table_of⟩
  have kk_table_of : KnowK P w K mg base "table_of" 5 "machine" "length" F_table_of := ⟨_, _, m_table_of, Fn_table_of.kp, bd_table_of, ok_table_of Fn_table_of k_check_machine k_check_number k_roads_to k_run pl_table_of, kbinds2 Fn_table_of fun _ _ _ _ _ _ _ _ => rfl⟩
  have k_divided : Know P w K mg base "divided" 2 ["numbers"] false 1 F_divided := ⟨_, _, m_divided, Fn_divided.kp, bd_divided, ok_divided Fn_divided k_divisor_of b_tuple pl_divided⟩
  have k_image : Know P w K mg base "image" 3 ["one", "fraction"] false 2 F_image := ⟨_, _, m_image, Fn_image.kp, bd_image, ok_image Fn_image k_divided pl_image⟩
  have k_left_over : Know P w K mg base "left_over" 1 ["one"] false 1 F_left_over := ⟨_, _, m_left_over, Fn_left_over.kp, bd_left_over, ok_left_over Fn_left_over pl_left_over⟩
  have k_read_turn : Know P w K mg base "read_turn" 2 ["one", "turn"] false 2 F_read_turn := ⟨_, _, m_read_turn, Fn_read_turn.kp, bd_read_turn, ok_read_turn Fn_read_turn k_left_over pl_read_turn⟩
  have k_gone_through : Know P w K mg base "gone_through" 3 ["one"] false 1 F_gone_through := ⟨_, _, m_gone_through, Fn_gone_through.kp, bd_gone_through, ok_gone_through Fn_gone_through k_left_over k_read_turn b_len pl_gone_through⟩
  have k_machine_of : Know P w K mg base "machine_of" 4 ["one"] false 1 F_machine_of := ⟨_, _, m_machine_of, Fn_machine_of.kp, bd_machine_of, ok_machine_of Fn_machine_of k_check_map k_gone_through k_road_of k_image b_zip pl_machine_of⟩
  have k_law_coin : Know P w K mg base "_law_coin" 1 ["purse", "many"] true 2 F_law_coin := ⟨_, _, m_law_coin, Fn_law_coin.kp, bd_law_coin, ok_law_coin Fn_law_coin b_int pl_law_coin⟩
  have k_law_bk_way : Know P w K mg base "_law_bk_way" 2 ["purse", "top"] true 2 F_law_bk_way := ⟨_, _, m_law_bk_way, Fn_law_bk_way.kp, bd_law_bk_way, ok_law_bk_way Fn_law_bk_way k_law_coin b_range pl_law_bk_way⟩
  have k_law_bk_shape : Know P w K mg base "_law_bk_shape" 3 ["purse", "many", "top"] true 3 F_law_bk_shape := ⟨_, _, m_law_bk_shape, Fn_law_bk_shape.kp, bd_law_bk_shape, ok_law_bk_shape Fn_law_bk_shape k_law_bk_way k_law_coin b_range pl_law_bk_shape⟩
  have k_law_bk_copied : KnowC P w K mg base "_law_bk_copied" 4 := ⟨_, _, m_law_bk_copied, Fn_law_bk_copied.kp, bd_law_bk_copied, ok_law_bk_copied Fn_law_bk_copied m_law_bk_copied Fn_law_bk_copied.kp bd_law_bk_copied b_isinstance b_list b_tuple _⟩
  have k_law_bk_texts : Know P w K mg base "_law_bk_texts" 1 ["top"] false 1 F_law_bk_texts := ⟨_, _, m_law_bk_texts, Fn_law_bk_texts.kp, bd_law_bk_texts, ok_law_bk_texts Fn_law_bk_texts b_range pl_law_bk_texts⟩
  have k_law_bk_walk : Know P w K mg base "_law_bk_walk" 1 ["shape", "way"] false 2 F_law_bk_walk := ⟨_, _, m_law_bk_walk, Fn_law_bk_walk.kp, bd_law_bk_walk, ok_law_bk_walk Fn_law_bk_walk pl_law_bk_walk⟩
  have k_law_bk_run : Know P w K mg base "_law_bk_run" 2 ["shape", "way"] false 2 F_law_bk_run := ⟨_, _, m_law_bk_run, Fn_law_bk_run.kp, bd_law_bk_run, ok_law_bk_run Fn_law_bk_run k_law_bk_walk pl_law_bk_run⟩
  have k_law_bk_share : Know P w K mg base "_law_bk_share" 1 ["near", "far"] false 2 F_law_bk_share := ⟨_, _, m_law_bk_share, Fn_law_bk_share.kp, bd_law_bk_share, ok_law_bk_share Fn_law_bk_share b_abs b_range b_int pl_law_bk_share⟩
  have k_law_bk_number : Know P w K mg base "_law_bk_number" 1 ["way"] false 1 F_law_bk_number := ⟨_, _, m_law_bk_number, Fn_law_bk_number.kp, bd_law_bk_number, ok_law_bk_number Fn_law_bk_number pl_law_bk_number⟩
  have k_law_bk_least : Know P w K mg base "_law_bk_least" 2 ["four"] false 1 F_law_bk_least := ⟨_, _, m_law_bk_least, Fn_law_bk_least.kp, bd_law_bk_least, ok_law_bk_least Fn_law_bk_least k_law_bk_share b_tuple b_max pl_law_bk_least⟩
  have k_law_bk_sent : Know P w K mg base "_law_bk_sent" 2 ["chart", "pair"] false 2 F_law_bk_sent := ⟨_, _, m_law_bk_sent, Fn_law_bk_sent.kp, bd_law_bk_sent, ok_law_bk_sent Fn_law_bk_sent k_law_bk_share b_max pl_law_bk_sent⟩
  have k_law_bk_worth : Know P w K mg base "_law_bk_worth" 1 ["four"] false 1 F_law_bk_worth := ⟨_, _, m_law_bk_worth, Fn_law_bk_worth.kp, bd_law_bk_worth, ok_law_bk_worth Fn_law_bk_worth pl_law_bk_worth⟩
  have k_law_bk_chart : Know P w K mg base "_law_bk_chart" 3 ["purse", "top", "most_size"] true 3 F_law_bk_chart := ⟨_, _, m_law_bk_chart, Fn_law_bk_chart.kp, bd_law_bk_chart, ok_law_bk_chart Fn_law_bk_chart k_law_coin k_law_bk_least k_law_bk_worth b_range b_abs pl_law_bk_chart⟩
  have k_law_bk_road : Know P w K mg base "_law_bk_road" 1 ["pair"] false 1 F_law_bk_road := ⟨_, _, m_law_bk_road, Fn_law_bk_road.kp, bd_law_bk_road, ok_law_bk_road Fn_law_bk_road b_range pl_law_bk_road⟩
  have k_law_right : KnowG P w K mg base "_law_right" 6 ["purse"] true 1 F_law_right := ⟨_, _, m_law_right, Fn_law_right.kp, bd_law_right, ok_law_right Fn_law_right k_law_bk_shape k_law_coin k_law_bk_texts k_law_bk_run k_law_bk_copied kk_table_of k_law_bk_chart k_law_bk_road k_law_bk_sent k_law_bk_number k_machine_of b_repr b_len b_list b_reversed pl_law_right⟩
  exact ok_law Fn_law b_len b_max b_min b_range m_law_purse Fn_law_purse.kp bd_law_purse (ok_law_purse Fn_law_purse b_len b_max b_abs b_int) k_law_right pl_right
end DL
open PySem PySem.W PySem.Calls PyProof.Rows
theorem PySem.Challenge.cw_leftroads_k81_tables_of_machines_holds : PySem.Challenge.rw_leftroads_k81_tables_of_machines.Holds := by
  w_on; o_law
  refine HandSHeadRun.head_any (r := OpenLaw.row PySem.Challenge.rw_leftroads_k81_tables_of_machines) (q := view (OpenLaw.row PySem.Challenge.rw_leftroads_k81_tables_of_machines).prog [51]) (H := DL.hkL) (ob := DL.obL) (M := 3000) (loose := DL.looseL) (d := HandSHeadRun.topDef (OpenLaw.row PySem.Challenge.rw_leftroads_k81_tables_of_machines).prog 51) (kwd := []) DL.obL_eq
    (by kernel_rfl) (fun s => by kernel_rfl) DL.runL (by kernel_rfl) (by kernel_rfl) (by kernel_rfl) (by rfl) (by first | assumption | decide +kernel) (by decide +kernel) ⟨rfl, rfl, rfl, rfl, rfl, by decide +kernel⟩ ?hw ?hc
  case hw => w_witness2
  case hc =>
    refine DL.walk_ofG (l := PySem.Challenge.rw_leftroads_k81_tables_of_machines) (n := 63) (k := 7) (x := "script") rfl (by decide) (by kernel_rfl) ⟨rfl, by decide, by decide⟩ fun w mg fa h Y G hmg0 => ?_
    obtain ⟨K, KX, c⟩ := Y
    have hmg : mg ("law" : PySem.Str) = some (.ref fa) := by
      have e : (HandSHeadRun.topDef (OpenLaw.row PySem.Challenge.rw_leftroads_k81_tables_of_machines).prog 51).name = ("law" : PySem.Str) := by kernel_rfl
      rw [← e]
      exact hmg0
    obtain ⟨fd, hb, hF⟩ := DL.factsL (P := (PySem.Challenge.rw_leftroads_k81_tables_of_machines).prog) (w := w) KX G hmg c
    exact ⟨K, fd, DL.spLaw K, KX, hb, fun H a ns hl _ hS => ⟨a, ns, rfl, hS, hl, fun _ => rfl⟩, hF⟩
