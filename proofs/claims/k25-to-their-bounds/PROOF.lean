import PyProof.Rows.All
import Wide.All
import OpenK.AllK
import Wide.FinOn
import HandS.ForMost
import HandS.ForExc
import HandS.TryMany
import HandS.ExcField
import HandS.CallLocal
import HandS.Conv
import HandS.Flow
import HandS.Style
import HandS.IsInst
import HandS.Wide
import HandS.SortInts
import HandS.SortKw
import HandS.TupAny
import HandS.TupMul
import HandS.Rev
import HandS.Zip
import HandS.RevTup
import HandS.WordsExc
import HandS.CallSlots
import HandS.SetFor
import KE.GoesMore
import HandS.Deep
import KE.DatumOrd
import PySem.Challenge.RW_branchsheets_k25_systems_to_their_bounds
set_option Elab.async false
set_option linter.all false
set_option maxRecDepth 100000
set_option maxHeartbeats 4000000
/-! Fx: programs as functions of plain data. -/
namespace Fx
open PySem L2

/-! the sizes, as words that nothing unfolds -/
theorem ex_sz : ∃ f : Nat → Bool, ∀ n, f n = true ↔ n ≤ sizeLine := ⟨fun n => decide (n ≤ sizeLine), fun n => decide_eq_true_iff⟩
noncomputable def szFits : Nat → Bool := ex_sz.choose
theorem szFits_iff {n : Nat} : szFits n = true ↔ n ≤ sizeLine := ex_sz.choose_spec n
theorem szFits_lt {n : Nat} : szFits (n + 1) = true ↔ n < sizeLine := szFits_iff
theorem ex_w62 : ∃ f : Int → Bool, ∀ j, f j = true ↔ -4611686018427387904 ≤ j ∧ j < 4611686018427387904 := ⟨fun j => decide (-4611686018427387904 ≤ j ∧ j < 4611686018427387904), fun n => decide_eq_true_iff⟩
noncomputable def w62 : Int → Bool := ex_w62.choose
theorem w62_iff {j : Int} : w62 j = true ↔ -(2 ^ 62) ≤ j ∧ j < 2 ^ 62 := by
  rw [show w62 j = true ↔ _ from ex_w62.choose_spec j]; omega
theorem ex_w63 : ∃ f : Int → Bool, ∀ j, f j = true ↔ -9223372036854775808 ≤ j ∧ j < 9223372036854775808 := ⟨fun j => decide (-9223372036854775808 ≤ j ∧ j < 9223372036854775808), fun n => decide_eq_true_iff⟩
noncomputable def w63 : Int → Bool := ex_w63.choose
theorem w63_iff {j : Int} : w63 j = true ↔ -(2 ^ 63) ≤ j ∧ j < 2 ^ 63 := by
  rw [show w63 j = true ↔ _ from ex_w63.choose_spec j]; omega

/-- plain data: what a Python value is, the mutable objects by their number in the store -/
inductive D where
  | non | bl (b : Bool) | int (i : Int) | str (x : Str) | ty (n : String) | fn (a : Addr)
  | tup (xs : List D) | lst (xs : List D) | loc (n : Nat)

/-- a mutable object -/
inductive O where
  | lst (xs : List D)
  | dk (kvs : List (Key × D))
  | dt (kvs : List (List Key × D))

abbrev Store := List O
abbrev En := List (Option D)

/-- where the store's objects lie; what is hidden (made, not yet told) -/
structure Mp where
  at' : Nat → Addr
  hid : Addr → Prop
def Mp.hide (ρ : Mp) (a : Addr) : Mp := ⟨ρ.at', fun b => ρ.hid b ∨ b = a⟩
/-- a list that is read only: not one of the store's -/
def LstAt (K : PySem.W.Frag) (H : Hp) (ρ : Mp) (n : Nat) (a : Addr) (xs : List V) : Prop :=
  (Rd H a (.lst xs) ∧ (∀ i, i < n → ρ.at' i ≠ a) ∧ ¬ ρ.hid a) ∨
    ∃ (o : Obj) (its : Array Value) (m : Nat), K.lookup a = some o ∧ o.cls = .type "list" ∧ o.dict = none ∧ o.data = .seq its m ∧ its.size ≤ sizeLine ∧ Vals xs its.toList
theorem LstAt.sq {K : PySem.W.Frag} {H : Hp} {ρ : Mp} {n : Nat} {a : Addr} {xs : List V} (h : LstAt K H ρ n a xs) : SqL K H a xs := h.imp (·.1) id

mutual
def RelD (K : PySem.W.Frag) (ρ : Mp) (n : Nat) (H : Hp) : D → V → Prop
  | .non, v => v = .non
  | .bl b, v => v = .bl b
  | .int i, v => v = .int i
  | .str x, v => v = .str x
  | .ty t, v => v = .ty t
  | .fn a, v => v = .ref a
  | .tup xs, v => ∃ a vs, v = .ref a ∧ H a = some (.tup vs) ∧ RelDs K ρ n H xs vs
  | .lst xs, v => ∃ a vs, v = .ref a ∧ LstAt K H ρ n a vs ∧ RelDs K ρ n H xs vs
  | .loc i, v => v = .ref (ρ.at' i) ∧ i < n
def RelDs (K : PySem.W.Frag) (ρ : Mp) (n : Nat) (H : Hp) : List D → List V → Prop
  | [], vs => vs = []
  | d :: ds, vs => ∃ v r, vs = v :: r ∧ RelD K ρ n H d v ∧ RelDs K ρ n H ds r
end

def ObjR (K : PySem.W.Frag) (ρ : Mp) (n : Nat) (H : Hp) : O → Addr → Prop
  | .lst ds, a => ∃ vs, H a = some (.lst vs) ∧ RelDs K ρ n H ds vs
  | .dk kvs, a => ∃ ws : List (Key × V), H a = some (.dK ws) ∧ Paired (fun p q => p.1 = q.1 ∧ RelD K ρ n H p.2 q.2) kvs ws
  | .dt kvs, a => ∃ ws : List (List Key × V), H a = some (.dT ws) ∧ Paired (fun p q => p.1 = q.1 ∧ RelD K ρ n H p.2 q.2) kvs ws

/-- the store lies in the heap -/
def isMut : HO → Bool
  | .lst _ => true
  | .dK _ => true
  | .dT _ => true
  | _ => false
structure R (K : PySem.W.Frag) (ρ : Mp) (st : Store) (H : Hp) : Prop where
  obj : ∀ i o, st[i]? = some o → ObjR K ρ st.length H o (ρ.at' i)
  inj : ∀ i j, i < st.length → j < st.length → ρ.at' i = ρ.at' j → i = j
  hid : ∀ a, ρ.hid a → ∃ u, H a = some u ∧ isMut u = true
  sep : ∀ i, i < st.length → ¬ ρ.hid (ρ.at' i)

/-- what a step may do to the heap -/
structure Ext (ρ : Mp) (n : Nat) (H : Hp) (ρ' : Mp) (n' : Nat) (H' : Hp) : Prop where
  le : n ≤ n'
  old : ∀ i, i < n → ρ'.at' i = ρ.at' i
  new : ∀ i, n ≤ i → i < n' → H (ρ'.at' i) = none
  keep : ∀ a o, H a = some o → (∀ i, i < n → ρ.at' i ≠ a) → H' a = some o
  hid : ρ'.hid = ρ.hid

section
variable {K : PySem.W.Frag} {ρ ρ' ρ'' : Mp} {st st' st'' : Store} {H H' H'' : Hp} {n n' n'' : Nat}

theorem R.at (r : R K ρ st H) {i : Nat} (h : i < st.length) : ∃ u, H (ρ.at' i) = some u ∧ isMut u = true := by
  have e : st[i]? = some st[i] := List.getElem?_eq_getElem h
  have q := r.obj i _ e
  revert q
  cases st[i] with
  | lst ds => rintro ⟨vs, h, _⟩; exact ⟨_, h, rfl⟩
  | dk ds => rintro ⟨vs, h, _⟩; exact ⟨_, h, rfl⟩
  | dt ds => rintro ⟨vs, h, _⟩; exact ⟨_, h, rfl⟩
theorem R.ne (r : R K ρ st H) {a : Addr} {u : HO} (h : H a = some u) (m : isMut u = false) : ∀ i, i < st.length → ρ.at' i ≠ a := fun i hi e => by
  obtain ⟨w, hw, mw⟩ := r.at hi
  rw [e, h] at hw; cases hw; rw [m] at mw; cases mw
theorem R.ne_none (r : R K ρ st H) {a : Addr} (h : H a = none) : ∀ i, i < st.length → ρ.at' i ≠ a := fun i hi e => by
  obtain ⟨w, hw, mw⟩ := r.at hi
  rw [e, h] at hw; cases hw
theorem R.nh_none (r : R K ρ st H) {a : Addr} (h : H a = none) : ¬ ρ.hid a := fun q => by
  obtain ⟨u, hu, _⟩ := r.hid a q
  rw [h] at hu; cases hu

theorem Ext.refl : Ext ρ n H ρ n H := ⟨Nat.le_refl _, fun _ _ => rfl, fun _ h1 h2 => absurd (Nat.lt_of_le_of_lt h1 h2) (Nat.lt_irrefl _), fun _ _ h _ => h, rfl⟩
/-- what is free behind a step was free ahead of it -/
theorem Ext.none_of (a : Ext ρ st.length H ρ' st'.length H') (m : R K ρ' st' H') {x : Addr} (q : H' x = none) : H x = none := by
  cases e : H x with
  | none => rfl
  | some u =>
    by_cases hm : ∃ j, j < st.length ∧ ρ.at' j = x
    · obtain ⟨j, hj, ej⟩ := hm
      obtain ⟨w, hw, _⟩ := m.at (Nat.lt_of_lt_of_le hj a.le)
      rw [a.old j hj, ej, q] at hw; cases hw
    · have := a.keep _ u e fun j hj z => hm ⟨j, hj, z⟩
      rw [q] at this; cases this
theorem Ext.trans (a : Ext ρ st.length H ρ' st'.length H') (r : R K ρ st H) (m : R K ρ' st' H') (b : Ext ρ' st'.length H' ρ'' n'' H'') : Ext ρ st.length H ρ'' n'' H'' := by
  refine ⟨Nat.le_trans a.le b.le, fun i hi => (b.old i (Nat.lt_of_lt_of_le hi a.le)).trans (a.old i hi), fun i h1 h2 => ?_, fun x o h1 h2 => ?_, b.hid.trans a.hid⟩
  · by_cases hi : i < st'.length
    · rw [b.old i hi]; exact a.new i h1 hi
    · exact a.none_of m (b.new i (Nat.le_of_not_lt hi) h2)
  · refine b.keep x o (a.keep x o h1 h2) fun i hi e => ?_
    by_cases hl : i < st.length
    · rw [a.old i hl] at e; exact h2 i hl e
    · have := a.new i (Nat.le_of_not_lt hl) hi
      rw [e, h1] at this; cases this

/-- .. more may be hidden, of what is new -/
structure ExtW (ρ : Mp) (n : Nat) (H : Hp) (ρ' : Mp) (n' : Nat) (H' : Hp) : Prop where
  le : n ≤ n'
  old : ∀ i, i < n → ρ'.at' i = ρ.at' i
  new : ∀ i, n ≤ i → i < n' → H (ρ'.at' i) = none
  keep : ∀ a o, H a = some o → (∀ i, i < n → ρ.at' i ≠ a) → H' a = some o
  hid : ∀ a, ρ'.hid a → ρ.hid a ∨ H a = none
theorem Ext.w (e : Ext ρ n H ρ' n' H') : ExtW ρ n H ρ' n' H' := ⟨e.le, e.old, e.new, e.keep, fun a h => .inl (by rw [← e.hid]; exact h)⟩
theorem ExtW.sqT (e : ExtW ρ st.length H ρ' n' H') (r : R K ρ st H) {a : Addr} {xs : List V} (h : SqT K H a xs) : SqT K H' a xs := by
  rcases h with (h | ⟨o, h⟩) | h
  · exact .inl (.inl (e.keep a _ h (r.ne h rfl)))
  · exact .inl (.inr ⟨o, e.keep a _ h (r.ne h rfl)⟩)
  · exact .inr h
theorem ExtW.lstAt (e : ExtW ρ n H ρ' n' H') {a : Addr} {xs : List V} (h : LstAt K H ρ n a xs) : LstAt K H' ρ' n' a xs := by
  rcases h with ⟨h, ni, nh⟩ | h
  · have nn : ∀ u, H a = some u → ∀ i, i < n' → ρ'.at' i ≠ a := fun u hu i hi z => by
      by_cases hl : i < n
      · rw [e.old i hl] at z; exact ni i hl z
      · have := e.new i (Nat.le_of_not_lt hl) hi
        rw [z, hu] at this; cases this
    have nh' : ∀ u, H a = some u → ¬ ρ'.hid a := fun u hu z => by
      rcases e.hid a z with q | q
      · exact nh q
      · rw [hu] at q; cases q
    rcases h with h | ⟨o, h⟩
    · exact .inl ⟨.inl (e.keep a _ h ni), nn _ h, nh' _ h⟩
    · exact .inl ⟨.inr ⟨o, e.keep a _ h ni⟩, nn _ h, nh' _ h⟩
  · exact .inr h
theorem Ext.sqT (e : Ext ρ st.length H ρ' n' H') (r : R K ρ st H) {a : Addr} {xs : List V} (h : SqT K H a xs) : SqT K H' a xs := e.w.sqT r h
theorem Ext.lstAt (e : Ext ρ n H ρ' n' H') {a : Addr} {xs : List V} (h : LstAt K H ρ n a xs) : LstAt K H' ρ' n' a xs := e.w.lstAt h

mutual
theorem RelD.monoW (e : ExtW ρ st.length H ρ' n' H') (r : R K ρ st H) : ∀ (d : D) {v : V}, RelD K ρ st.length H d v → RelD K ρ' n' H' d v
  | .non, v, h => by simpa only [RelD] using h
  | .bl b, v, h => by simpa only [RelD] using h
  | .int b, v, h => by simpa only [RelD] using h
  | .str b, v, h => by simpa only [RelD] using h
  | .ty b, v, h => by simpa only [RelD] using h
  | .fn b, v, h => by simpa only [RelD] using h
  | .tup xs, v, h => by
    simp only [RelD] at h ⊢
    obtain ⟨a, vs, rfl, s, q⟩ := h
    exact ⟨a, vs, rfl, e.keep a _ s (r.ne s rfl), RelDs.monoW e r xs q⟩
  | .lst xs, v, h => by
    simp only [RelD] at h ⊢
    obtain ⟨a, vs, rfl, s, q⟩ := h
    exact ⟨a, vs, rfl, e.lstAt s, RelDs.monoW e r xs q⟩
  | .loc i, v, h => by
    simp only [RelD] at h ⊢
    rw [e.old i h.2]
    exact ⟨h.1, Nat.lt_of_lt_of_le h.2 e.le⟩
theorem RelDs.monoW (e : ExtW ρ st.length H ρ' n' H') (r : R K ρ st H) : ∀ (ds : List D) {vs : List V}, RelDs K ρ st.length H ds vs → RelDs K ρ' n' H' ds vs
  | [], vs, h => by simpa only [RelDs] using h
  | d :: ds, vs, h => by
    simp only [RelDs] at h ⊢
    obtain ⟨v, w, rfl, h1, h2⟩ := h
    exact ⟨v, w, rfl, RelD.monoW e r d h1, RelDs.monoW e r ds h2⟩
end
theorem RelD.mono {v : V} {d : D} (h : RelD K ρ st.length H d v) (e : Ext ρ st.length H ρ' n' H') (r : R K ρ st H) : RelD K ρ' n' H' d v := RelD.monoW e.w r d h
theorem RelDs.mono (e : Ext ρ st.length H ρ' n' H') (r : R K ρ st H) (ds : List D) {vs : List V} (h : RelDs K ρ st.length H ds vs) : RelDs K ρ' n' H' ds vs := RelDs.monoW e.w r ds h

theorem RelDs.len : ∀ {ds : List D} {vs : List V}, RelDs K ρ n H ds vs → vs.length = ds.length
  | [], vs, h => by simp only [RelDs] at h; subst h; rfl
  | d :: ds, vs, h => by
    simp only [RelDs] at h
    obtain ⟨v, w, rfl, _, h2⟩ := h
    simp [RelDs.len h2]
theorem RelDs.nil : RelDs K ρ n H [] [] := by simp [RelDs]
theorem RelDs.cons {d : D} {ds : List D} {v : V} {vs : List V} (h : RelD K ρ n H d v) (t : RelDs K ρ n H ds vs) : RelDs K ρ n H (d :: ds) (v :: vs) := by
  simp only [RelDs]; exact ⟨v, vs, rfl, h, t⟩
theorem RelDs.cases {d : D} {ds : List D} {vs : List V} (h : RelDs K ρ n H (d :: ds) vs) : ∃ v r, vs = v :: r ∧ RelD K ρ n H d v ∧ RelDs K ρ n H ds r := by
  simpa only [RelDs] using h
theorem RelDs.nil_eq {vs : List V} (h : RelDs K ρ n H [] vs) : vs = [] := by simpa only [RelDs] using h
theorem RelDs.get : ∀ {ds : List D} {vs : List V} {i : Nat} {d : D}, RelDs K ρ n H ds vs → ds[i]? = some d → ∃ v, vs[i]? = some v ∧ RelD K ρ n H d v
  | [], _, _, _, _, h => by simp at h
  | d :: ds, vs, 0, d', h, e => by
    obtain ⟨v, w, rfl, h1, h2⟩ := h.cases
    simp at e; subst e; exact ⟨v, rfl, h1⟩
  | d :: ds, vs, i + 1, d', h, e => by
    obtain ⟨v, w, rfl, h1, h2⟩ := h.cases
    obtain ⟨u, q1, q2⟩ := RelDs.get (i := i) h2 (by simpa using e)
    exact ⟨u, by simpa using q1, q2⟩
theorem RelDs.get' : ∀ {ds : List D} {vs : List V} {i : Nat} {v : V}, RelDs K ρ n H ds vs → vs[i]? = some v → ∃ d, ds[i]? = some d ∧ RelD K ρ n H d v
  | [], vs, i, v, h, e => by rw [h.nil_eq] at e; simp at e
  | d :: ds, vs, 0, v', h, e => by
    obtain ⟨v, w, rfl, h1, h2⟩ := h.cases
    simp at e; subst e; exact ⟨d, rfl, h1⟩
  | d :: ds, vs, i + 1, v', h, e => by
    obtain ⟨v, w, rfl, h1, h2⟩ := h.cases
    obtain ⟨u, q1, q2⟩ := RelDs.get' (i := i) h2 (by simpa using e)
    exact ⟨u, by simpa using q1, q2⟩
theorem RelDs.append : ∀ {xs ys : List D} {us ws : List V}, RelDs K ρ n H xs us → RelDs K ρ n H ys ws → RelDs K ρ n H (xs ++ ys) (us ++ ws)
  | [], _, us, _, h, t => by rw [h.nil_eq]; exact t
  | d :: ds, _, us, _, h, t => by
    obtain ⟨v, w, rfl, h1, h2⟩ := h.cases
    exact .cons h1 (RelDs.append h2 t)
theorem RelDs.take : ∀ {xs : List D} {us : List V} (k : Nat), RelDs K ρ n H xs us → RelDs K ρ n H (xs.take k) (us.take k)
  | [], us, k, h => by rw [h.nil_eq]; simp [RelDs]
  | d :: ds, us, 0, h => by simp [RelDs]
  | d :: ds, us, k + 1, h => by
    obtain ⟨v, w, rfl, h1, h2⟩ := h.cases
    exact .cons h1 (RelDs.take k h2)
theorem RelDs.drop : ∀ {xs : List D} {us : List V} (k : Nat), RelDs K ρ n H xs us → RelDs K ρ n H (xs.drop k) (us.drop k)
  | [], us, k, h => by rw [h.nil_eq]; simp [RelDs]
  | d :: ds, us, 0, h => h
  | d :: ds, us, k + 1, h => by
    obtain ⟨v, w, rfl, h1, h2⟩ := h.cases
    exact RelDs.drop k h2
theorem RelDs.set {d : D} {v : V} (r : RelD K ρ n H d v) : ∀ {xs : List D} {us : List V} (k : Nat), RelDs K ρ n H xs us → RelDs K ρ n H (xs.set k d) (us.set k v)
  | [], us, k, h => by rw [h.nil_eq]; simp [RelDs]
  | d :: ds, us, 0, h => by
    obtain ⟨v, w, rfl, h1, h2⟩ := h.cases
    exact .cons r h2
  | d :: ds, us, k + 1, h => by
    obtain ⟨v, w, rfl, h1, h2⟩ := h.cases
    exact .cons h1 (RelDs.set r k h2)
theorem RelDs.eraseIdx : ∀ {xs : List D} {us : List V} (k : Nat), RelDs K ρ n H xs us → RelDs K ρ n H (xs.eraseIdx k) (us.eraseIdx k)
  | [], us, k, h => by rw [h.nil_eq]; simp [RelDs]
  | d :: ds, us, 0, h => by
    obtain ⟨v, w, rfl, h1, h2⟩ := h.cases
    exact h2
  | d :: ds, us, k + 1, h => by
    obtain ⟨v, w, rfl, h1, h2⟩ := h.cases
    exact .cons h1 (RelDs.eraseIdx k h2)
theorem RelDs.reverse : ∀ {xs : List D} {us : List V}, RelDs K ρ n H xs us → RelDs K ρ n H xs.reverse us.reverse
  | [], us, h => by rw [h.nil_eq]; simp [RelDs]
  | d :: ds, us, h => by
    obtain ⟨v, w, rfl, h1, h2⟩ := h.cases
    rw [List.reverse_cons, List.reverse_cons]
    exact (RelDs.reverse h2).append (.cons h1 .nil)
theorem RelDs.dropLast {xs : List D} {us : List V} (h : RelDs K ρ n H xs us) : RelDs K ρ n H xs.dropLast us.dropLast := by
  rw [List.dropLast_eq_take, List.dropLast_eq_take, h.len]; exact h.take _
theorem RelDs.replicate {d : D} {v : V} (r : RelD K ρ n H d v) : ∀ k : Nat, RelDs K ρ n H (List.replicate k d) (List.replicate k v)
  | 0 => by simp [RelDs]
  | k + 1 => by rw [List.replicate_succ, List.replicate_succ]; exact .cons r (RelDs.replicate r k)
theorem RelDs.repl {xs : List D} {us : List V} (r : RelDs K ρ n H xs us) : ∀ k : Nat, RelDs K ρ n H (List.replicate k xs).flatten (List.replicate k us).flatten
  | 0 => by simp [RelDs]
  | k + 1 => by rw [List.replicate_succ, List.replicate_succ, List.flatten_cons, List.flatten_cons]; exact r.append (RelDs.repl r k)
theorem RelDs.ints : ∀ {ns : List Int} {vs : List V}, RelDs K ρ n H (ns.map .int) vs → vs = ns.map V.int
  | [], vs, h => h.nil_eq
  | i :: r, vs, h => by
    obtain ⟨v, w, rfl, h1, h2⟩ := RelDs.cases (show RelDs K ρ n H (.int i :: r.map D.int) vs from h)
    simp only [RelD] at h1
    rw [h1, RelDs.ints h2]; rfl
theorem RelDs.ints' : ∀ {ns : List Int}, RelDs K ρ n H (ns.map .int) (ns.map V.int)
  | [] => .nil
  | i :: r => .cons (by simp [RelD]) (RelDs.ints' (ns := r))
theorem RelDs.bls : ∀ {ns : List Bool} {vs : List V}, RelDs K ρ n H (ns.map .bl) vs → vs = ns.map V.bl
  | [], vs, h => h.nil_eq
  | i :: r, vs, h => by
    obtain ⟨v, w, rfl, h1, h2⟩ := RelDs.cases (show RelDs K ρ n H (.bl i :: r.map D.bl) vs from h)
    simp only [RelD] at h1
    rw [h1, RelDs.bls h2]; rfl
theorem R.push_ext (r : R K ρ st H) {p : Addr} {u : HO} (hp : H p = none) : Ext ρ st.length H ρ st.length (upd H p u) :=
  ⟨Nat.le_refl _, fun _ _ => rfl, fun _ h1 h2 => absurd (Nat.lt_of_le_of_lt h1 h2) (Nat.lt_irrefl _), fun a o h _ => by rw [upd_ne (ne_of_none h hp)]; exact h, rfl⟩
theorem Paired.monoP {α β : Type} {F G : α → β → Prop} : ∀ {l₁ : List α} {l₂ : List β}, Paired F l₁ l₂ → (∀ a b, F a b → G a b) → Paired G l₁ l₂
  | _, _, .nil, _ => .nil
  | _, _, .cons r t, f => .cons (f _ _ r) (Paired.monoP t f)
theorem ObjR.mono (e : Ext ρ st.length H ρ' n' H') (r : R K ρ st H) {a : Addr} (ha : ∀ u, H a = some u → H' a = some u) : ∀ {o : O}, ObjR K ρ st.length H o a → ObjR K ρ' n' H' o a
  | .lst ds, ⟨vs, h, q⟩ => ⟨vs, ha _ h, RelDs.mono e r ds q⟩
  | .dk ds, ⟨vs, h, q⟩ => ⟨vs, ha _ h, Paired.monoP q fun p q z => ⟨z.1, RelD.mono z.2 e r⟩⟩
  | .dt ds, ⟨vs, h, q⟩ => ⟨vs, ha _ h, Paired.monoP q fun p q z => ⟨z.1, RelD.mono z.2 e r⟩⟩
/-- an untracked new object -/
theorem R.free (r : R K ρ st H) {p : Addr} {u : HO} (hp : H p = none) : R K ρ st (upd H p u) :=
  ⟨fun i o h => (r.obj i o h).mono (r.push_ext hp) r fun w hw => by rw [upd_ne (ne_of_none hw hp)]; exact hw, r.inj,
    fun a h => let ⟨w, hw, m⟩ := r.hid a h; ⟨w, by rw [upd_ne (ne_of_none hw hp)]; exact hw, m⟩, r.sep⟩
/-- a new object of the store -/
def put (ρ : Mp) (n : Nat) (p : Addr) : Mp := ⟨fun i => if i = n then p else ρ.at' i, ρ.hid⟩
theorem put_at {ρ : Mp} {n : Nat} {p : Addr} : (put ρ n p).at' n = p := if_pos rfl
theorem put_ne {ρ : Mp} {n i : Nat} {p : Addr} (h : i ≠ n) : (put ρ n p).at' i = ρ.at' i := if_neg h
theorem put_ext {p : Addr} {u : HO} (hp : H p = none) : Ext ρ n H (put ρ n p) (n + 1) (upd H p u) :=
  ⟨Nat.le_succ _, fun i hi => put_ne (Nat.ne_of_lt hi), fun i h1 h2 => by
    have : i = n := by omega
    rw [this, put_at]; exact hp, fun a o h _ => by rw [upd_ne (ne_of_none h hp)]; exact h, rfl⟩
theorem R.alloc (r : R K ρ st H) {p : Addr} {u : HO} {o : O} (hp : H p = none) (ho : ObjR K (put ρ st.length p) (st.length + 1) (upd H p u) o p) : R K (put ρ st.length p) (st ++ [o]) (upd H p u) := by
  refine ⟨fun i x h => ?_, fun i j hi hj e => ?_, fun a h => let ⟨w, hw, m⟩ := r.hid a h; ⟨w, by rw [upd_ne (ne_of_none hw hp)]; exact hw, m⟩, fun i hi => ?_⟩
  · rw [List.length_append, List.length_singleton]
    by_cases hi : i < st.length
    · rw [List.getElem?_append_left hi] at h
      rw [put_ne (Nat.ne_of_lt hi)]
      exact (r.obj i x h).mono (put_ext hp) r fun w hw => by rw [upd_ne (ne_of_none hw hp)]; exact hw
    · have hl : i = st.length := by
        have := (List.getElem?_eq_some_iff.mp h).1
        simp at this; omega
      subst hl
      simp at h; subst h
      rw [put_at]; exact ho
  · rw [List.length_append, List.length_singleton] at hi hj
    by_cases h1 : i = st.length
    · by_cases h2 : j = st.length
      · rw [h1, h2]
      · rw [h1, put_at, put_ne h2] at e
        exact absurd e.symm (r.ne_none hp j (by omega))
    · by_cases h2 : j = st.length
      · rw [h2, put_at, put_ne h1] at e
        exact absurd e (r.ne_none hp i (by omega))
      · rw [put_ne h1, put_ne h2] at e
        exact r.inj i j (by omega) (by omega) e
  · rw [List.length_append, List.length_singleton] at hi
    by_cases h1 : i = st.length
    · rw [h1, put_at]; exact r.nh_none hp
    · rw [put_ne h1]; exact r.sep i (by omega)
/-- an object of the store is written -/
theorem R.set_ext (r : R K ρ st H) {i : Nat} {u : HO} (hi : i < st.length) : Ext ρ st.length H ρ st.length (upd H (ρ.at' i) u) :=
  ⟨Nat.le_refl _, fun _ _ => rfl, fun _ h1 h2 => absurd (Nat.lt_of_le_of_lt h1 h2) (Nat.lt_irrefl _), fun a o h q => by rw [upd_ne (Ne.symm (q i hi))]; exact h, rfl⟩
theorem R.set (r : R K ρ st H) {i : Nat} {u : HO} {o : O} (hi : i < st.length) (ho : ObjR K ρ st.length (upd H (ρ.at' i) u) o (ρ.at' i)) : R K ρ (st.set i o) (upd H (ρ.at' i) u) := by
  refine ⟨fun j x h => ?_, fun a b ha hb e => r.inj a b (by simpa using ha) (by simpa using hb) e, fun a h => ?_, fun j hj => r.sep j (by simpa using hj)⟩
  · rw [List.length_set]
    by_cases hj : j = i
    · subst hj
      rw [List.getElem?_set_self hi] at h
      cases h; exact ho
    · rw [List.getElem?_set_ne (Ne.symm hj)] at h
      have hl : j < st.length := (List.getElem?_eq_some_iff.mp h).1
      exact (r.obj j x h).mono (r.set_ext hi) r fun w hw => by rw [upd_ne (fun z => hj (r.inj j i hl hi z))]; exact hw
  · obtain ⟨w, hw, m⟩ := r.hid a h
    refine ⟨w, ?_, m⟩
    have ne : a ≠ ρ.at' i := fun z => r.sep i hi (z ▸ h)
    rw [upd_ne ne]; exact hw

/-! ### a new list that is not told yet -/
theorem LstAt.hide {p : Addr} {u : HO} (hp : H p = none) {a : Addr} {xs : List V} (h : LstAt K H ρ n a xs) : LstAt K (upd H p u) (ρ.hide p) n a xs := by
  rcases h with ⟨h, ni, nh⟩ | h
  · rcases h with h | ⟨o, h⟩
    · have ne : a ≠ p := ne_of_none h hp
      exact .inl ⟨.inl (by rw [upd_ne ne]; exact h), ni, fun z => z.elim nh ne⟩
    · have ne : a ≠ p := ne_of_none h hp
      exact .inl ⟨.inr ⟨o, by rw [upd_ne ne]; exact h⟩, ni, fun z => z.elim nh ne⟩
  · exact .inr h
theorem SqT.hide {p : Addr} {u : HO} (hp : H p = none) {a : Addr} {xs : List V} (h : SqT K H a xs) : SqT K (upd H p u) a xs := by
  rcases h with (h | ⟨o, h⟩) | h
  · exact .inl (.inl (by rw [upd_ne (ne_of_none h hp)]; exact h))
  · exact .inl (.inr ⟨o, by rw [upd_ne (ne_of_none h hp)]; exact h⟩)
  · exact .inr h
mutual
theorem RelD.hide {p : Addr} {u : HO} (hp : H p = none) : ∀ (d : D) {v : V}, RelD K ρ n H d v → RelD K (ρ.hide p) n (upd H p u) d v
  | .non, v, h => by simpa only [RelD] using h
  | .bl b, v, h => by simpa only [RelD] using h
  | .int b, v, h => by simpa only [RelD] using h
  | .str b, v, h => by simpa only [RelD] using h
  | .ty b, v, h => by simpa only [RelD] using h
  | .fn b, v, h => by simpa only [RelD] using h
  | .tup xs, v, h => by
    simp only [RelD] at h ⊢
    obtain ⟨a, vs, rfl, s, q⟩ := h
    exact ⟨a, vs, rfl, by rw [upd_ne (ne_of_none s hp)]; exact s, RelDs.hide hp xs q⟩
  | .lst xs, v, h => by
    simp only [RelD] at h ⊢
    obtain ⟨a, vs, rfl, s, q⟩ := h
    exact ⟨a, vs, rfl, s.hide hp, RelDs.hide hp xs q⟩
  | .loc i, v, h => by simpa only [RelD, Mp.hide] using h
theorem RelDs.hide {p : Addr} {u : HO} (hp : H p = none) : ∀ (ds : List D) {vs : List V}, RelDs K ρ n H ds vs → RelDs K (ρ.hide p) n (upd H p u) ds vs
  | [], vs, h => by simpa only [RelDs] using h
  | d :: ds, vs, h => by
    simp only [RelDs] at h ⊢
    obtain ⟨v, w, rfl, h1, h2⟩ := h
    exact ⟨v, w, rfl, RelD.hide hp d h1, RelDs.hide hp ds h2⟩
end
mutual
theorem RelD.show' {p : Addr} : ∀ (d : D) {v : V}, RelD K (ρ.hide p) n H d v → RelD K ρ n H d v
  | .non, v, h => by simpa only [RelD] using h
  | .bl b, v, h => by simpa only [RelD] using h
  | .int b, v, h => by simpa only [RelD] using h
  | .str b, v, h => by simpa only [RelD] using h
  | .ty b, v, h => by simpa only [RelD] using h
  | .fn b, v, h => by simpa only [RelD] using h
  | .tup xs, v, h => by
    simp only [RelD] at h ⊢
    obtain ⟨a, vs, rfl, s, q⟩ := h
    exact ⟨a, vs, rfl, s, RelDs.show' xs q⟩
  | .lst xs, v, h => by
    simp only [RelD] at h ⊢
    obtain ⟨a, vs, rfl, s, q⟩ := h
    refine ⟨a, vs, rfl, ?_, RelDs.show' xs q⟩
    rcases s with ⟨h, ni, nh⟩ | h
    · exact .inl ⟨h, ni, fun z => nh (.inl z)⟩
    · exact .inr h
  | .loc i, v, h => by simpa only [RelD, Mp.hide] using h
theorem RelDs.show' {p : Addr} : ∀ (ds : List D) {vs : List V}, RelDs K (ρ.hide p) n H ds vs → RelDs K ρ n H ds vs
  | [], vs, h => by simpa only [RelDs] using h
  | d :: ds, vs, h => by
    simp only [RelDs] at h ⊢
    obtain ⟨v, w, rfl, h1, h2⟩ := h
    exact ⟨v, w, rfl, RelD.show' d h1, RelDs.show' ds h2⟩
end
theorem R.hide (r : R K ρ st H) {p : Addr} {u : HO} (hp : H p = none) (m : isMut u = true) : R K (ρ.hide p) st (upd H p u) := by
  refine ⟨fun i o h => ?_, r.inj, fun a h => ?_, fun i hi h => h.elim (r.sep i hi) (r.ne_none hp i hi)⟩
  · have q := r.obj i o h
    have k : ∀ w, H (ρ.at' i) = some w → upd H p u (ρ.at' i) = some w := fun w hw => by rw [upd_ne (ne_of_none hw hp)]; exact hw
    revert q
    cases o with
    | lst ds => rintro ⟨vs, h, q⟩; exact ⟨vs, k _ h, RelDs.hide hp ds q⟩
    | dk ds => rintro ⟨vs, h, q⟩; exact ⟨vs, k _ h, Paired.monoP q fun p q z => ⟨z.1, RelD.hide hp _ z.2⟩⟩
    | dt ds => rintro ⟨vs, h, q⟩; exact ⟨vs, k _ h, Paired.monoP q fun p q z => ⟨z.1, RelD.hide hp _ z.2⟩⟩
  · rcases h with h | rfl
    · obtain ⟨w, hw, m'⟩ := r.hid a h
      exact ⟨w, by rw [upd_ne (ne_of_none hw hp)]; exact hw, m'⟩
    · exact ⟨u, upd_same, m⟩
theorem R.show' {p : Addr} (r : R K (ρ.hide p) st H) : R K ρ st H := by
  refine ⟨fun i o h => ?_, r.inj, fun a h => r.hid a (.inl h), fun i hi h => r.sep i hi (.inl h)⟩
  have q := r.obj i o h
  revert q
  cases o with
  | lst ds => rintro ⟨vs, h, q⟩; exact ⟨vs, h, RelDs.show' ds q⟩
  | dk ds => rintro ⟨vs, h, q⟩; exact ⟨vs, h, Paired.monoP q fun p q z => ⟨z.1, RelD.show' _ z.2⟩⟩
  | dt ds => rintro ⟨vs, h, q⟩; exact ⟨vs, h, Paired.monoP q fun p q z => ⟨z.1, RelD.show' _ z.2⟩⟩
end
end Fx

set_option Elab.async false
set_option linter.all false
set_option maxRecDepth 100000
set_option maxHeartbeats 4000000
namespace Fx
open PySem L2

/-- an exception: its class, its own fields -/
structure Ex where
  cls : Addr
  fs : Option (List (Str × D))

/-- what an expression gives: nothing known, a value, an exception -/
inductive Rs (α : Type) where
  | no
  | ok (a : α) (st : Store)
  | er (x : Ex) (st : Store)

def Rs.bind {α β : Type} (r : Rs α) (k : α → Store → Rs β) : Rs β :=
  match r with
  | .no => .no
  | .ok a st => k a st
  | .er x st => .er x st
@[simp] theorem Rs.bind_no {α β : Type} (k : α → Store → Rs β) : (Rs.no : Rs α).bind k = .no := rfl
@[simp] theorem Rs.bind_ok {α β : Type} (a : α) (st : Store) (k : α → Store → Rs β) : (Rs.ok a st).bind k = k a st := rfl
@[simp] theorem Rs.bind_er {α β : Type} (x : Ex) (st : Store) (k : α → Store → Rs β) : (Rs.er x st : Rs α).bind k = .er x st := rfl
theorem Rs.bind_assoc {α β γ : Type} (r : Rs α) (k : α → Store → Rs β) (j : β → Store → Rs γ) : (r.bind k).bind j = r.bind fun a st => (k a st).bind j := by
  cases r <;> rfl

/-- what a statement does -/
inductive Rt where
  | no
  | nx (σ : En) (st : Store)
  | rt (d : D) (st : Store)
  | bk (σ : En) (st : Store)
  | ct (σ : En) (st : Store)
  | er (x : Ex) (σ : En) (st : Store)

abbrev SE := En → Store → Rs D
abbrev SB := En → Store → Rs Bool
abbrev SA := En → Store → Rs (List D)
abbrev SS := En → Store → Rt

def ExR (K : PySem.W.Frag) (ρ : Mp) (n : Nat) (H : Hp) (x : Ex) (cls : Value) (dd : Option Addr) : Prop :=
  cls = .ref x.cls ∧ match x.fs, dd with
    | none, none => True
    | some fs, some d => ∃ ws : List (Str × V), H d = some (.xd ws) ∧ Paired (fun p q => p.1 = q.1 ∧ RelD K ρ n H p.2 q.2) fs ws
    | _, _ => False

def EnvR (K : PySem.W.Frag) (ρ : Mp) (n : Nat) (H : Hp) (τ : En) (σ : St) : Prop :=
  τ.length = σ.length ∧ ∀ (i : Nat) (d : D), τ[i]? = some (some d) → ∃ v, σ[i]? = some (some v) ∧ RelD K ρ n H d v

abbrev Rl (α β : Type) := Hp → Mp → Store → Hp → α → β → Prop

section
variable {K : PySem.W.Frag} {ρ ρ' ρ'' : Mp} {st st' st'' : Store} {H H' H'' : Hp} {n n' n'' : Nat} {τ : En} {σ : St} {W : WX}

theorem EnvR.mono (e : Ext ρ st.length H ρ' n' H') (r : R K ρ st H) (h : EnvR K ρ st.length H τ σ) : EnvR K ρ' n' H' τ σ :=
  ⟨h.1, fun i d q => let ⟨v, a, b⟩ := h.2 i d q; ⟨v, a, b.mono e r⟩⟩
theorem EnvR.set {d : D} {v : V} (h : EnvR K ρ n H τ σ) (r : RelD K ρ n H d v) (i : Nat) : EnvR K ρ n H (τ.set i (some d)) (σ.set i (some v)) := by
  refine ⟨by simp [h.1], fun j d' q => ?_⟩
  by_cases hj : j = i
  · subst hj
    have hl : j < τ.length := by have := (List.getElem?_eq_some_iff.mp q).1; simpa using this
    rw [List.getElem?_set_self hl] at q
    cases q
    exact ⟨v, by rw [List.getElem?_set_self (h.1 ▸ hl)], r⟩
  · rw [List.getElem?_set_ne (Ne.symm hj)] at q
    obtain ⟨w, a, b⟩ := h.2 j d' q
    exact ⟨w, by rw [List.getElem?_set_ne (Ne.symm hj)]; exact a, b⟩
theorem EnvR.unset (h : EnvR K ρ n H τ σ) (i : Nat) : EnvR K ρ n H (τ.set i none) (σ.set i none) := by
  refine ⟨by simp [h.1], fun j d' q => ?_⟩
  by_cases hj : j = i
  · subst hj
    have hl : j < τ.length := by have := (List.getElem?_eq_some_iff.mp q).1; simpa using this
    rw [List.getElem?_set_self hl] at q
    cases q
  · rw [List.getElem?_set_ne (Ne.symm hj)] at q
    obtain ⟨w, a, b⟩ := h.2 j d' q
    exact ⟨w, by rw [List.getElem?_set_ne (Ne.symm hj)]; exact a, b⟩
/-- forgetting the comprehension's own slots -/
def wipeE (σ : En) : List Nat → En
  | [] => σ
  | v :: vs => (wipeE σ vs).set v none
theorem EnvR.wipe (h : EnvR K ρ n H τ σ) : ∀ vs : List Nat, EnvR K ρ n H (wipeE τ vs) (wipe σ vs)
  | [] => h
  | v :: vs => (EnvR.wipe h vs).unset v

/-- what is wanted of a result -/
def Out {α β : Type} (K : PySem.W.Frag) (Re : Rl α β) (W : WX) (σ : St) (ρ : Mp) (n : Nat) (H : Hp) (Q : β → Hp → Prop) : Rs α → Prop
  | .no => False
  | .ok d st' => ∀ ρ' H' v, Ext ρ n H ρ' st'.length H' → R K ρ' st' H' → Re H ρ' st' H' d v → Q v H'
  | .er x st' => ∀ ρ' H' cls dd, Ext ρ n H ρ' st'.length H' → R K ρ' st' H' → ExR K ρ' st'.length H' x cls dd → W cls dd σ H'
/-- the reading of an expression by its function of plain data -/
def tM {α β : Type} (K : PySem.W.Frag) (Re : Rl α β) (W : WX) (m : En → Store → Rs α) : St → Hp → (β → Hp → Prop) → Prop := fun σ H Q =>
  ∃ (ρ : Mp) (τ : En) (st : Store), R K ρ st H ∧ EnvR K ρ st.length H τ σ ∧ Out K Re W σ ρ st.length H Q (m τ st)
end

abbrev reD (K : PySem.W.Frag) : Rl D V := fun _ ρ st H d v => RelD K ρ st.length H d v
abbrev reL (K : PySem.W.Frag) : Rl (List D) (List V) := fun _ ρ st H ds vs => RelDs K ρ st.length H ds vs
abbrev reB : Rl Bool Bool := fun _ _ _ _ a b => a = b
/-- a list that this very expression has made: nothing else holds it -/
def reN (K : PySem.W.Frag) : Rl (List D) V := fun H0 ρ st H ds v => ∃ a vs, v = .ref a ∧ H0 a = none ∧ H a = some (.lst vs) ∧ R K (ρ.hide a) st H ∧ RelDs K (ρ.hide a) st.length H ds vs
class RlOk {α β : Type} (K : PySem.W.Frag) (Re : Rl α β) : Prop where
  back : ∀ {ρ ρ1 ρ' : Mp} {st st1 st' : Store} {H H1 H' : Hp} {d : α} {v : β}, Ext ρ st.length H ρ1 st1.length H1 → R K ρ1 st1 H1 → Re H1 ρ' st' H' d v → Re H ρ' st' H' d v
instance {K : PySem.W.Frag} : RlOk K (reD K) := ⟨fun _ _ h => h⟩
instance {K : PySem.W.Frag} : RlOk K (reL K) := ⟨fun _ _ h => h⟩
instance {K : PySem.W.Frag} : RlOk K reB := ⟨fun _ _ h => h⟩
instance {K : PySem.W.Frag} : RlOk K (reN K) := ⟨fun e r ⟨a, vs, h1, h2, h3⟩ => ⟨a, vs, h1, e.none_of r h2, h3⟩⟩

abbrev EvE (X : Cx) (W : WX) (e : Expr) (m : SE) : Prop := PE X e (tM X.K (reD X.K) W m)
abbrev EvB (X : Cx) (W : WX) (e : Expr) (m : SB) : Prop := PT X e (tM X.K reB W m)
abbrev EvW (X : Cx) (W : WX) (e : Expr) (m : SB) : Prop := PW X e (tM X.K reB W m)
abbrev EvA (X : Cx) (W : WX) (es : List Expr) (m : SA) : Prop := PA X es (tM X.K (reL X.K) W m)
/-- a new list that nothing else holds -/
abbrev EvF (X : Cx) (W : WX) (e : Expr) (m : SA) : Prop := PE X e (tM X.K (reN X.K) W m)

theorem PE.imp {X : Cx} {e : Expr} {t t' : TE} (h : PE X e t) (hi : ∀ σ H Q, t' σ H Q → t σ H Q) : PE X e t' := ⟨fun pins s σ H Q I q => h.run pins s σ H Q I (hi _ _ _ q)⟩
theorem PE.impI {X : Cx} {e : Expr} {t t' : TE} (h : PE X e t) (hi : ∀ pins s σ H Q, Inv X pins σ H s → t' σ H Q → t σ H Q) : PE X e t' := ⟨fun pins s σ H Q I q => h.run pins s σ H Q I (hi _ _ _ _ _ I q)⟩
theorem PT.imp {X : Cx} {e : Expr} {t t' : TT} (h : PT X e t) (hi : ∀ σ H Q, t' σ H Q → t σ H Q) : PT X e t' := ⟨fun pins s σ H Q I q => h.run pins s σ H Q I (hi _ _ _ q)⟩
theorem PW.imp {X : Cx} {e : Expr} {t t' : TT} (h : PW X e t) (hi : ∀ σ H Q, t' σ H Q → t σ H Q) : PW X e t' := ⟨fun wh pins s σ H Q I q => h.run wh pins s σ H Q I (hi _ _ _ q)⟩
theorem PA.imp {X : Cx} {e : List Expr} {t t' : TA} (h : PA X e t) (hi : ∀ σ H Q, t' σ H Q → t σ H Q) : PA X e t' := ⟨fun pos pins s σ H Q I q => h.run pos pins s σ H Q I (hi _ _ _ q)⟩
theorem PS.imp {X : Cx} {e : Stmt} {t t' : TS} (h : PS X e t) (hi : ∀ D σ H, t' D σ H → t D σ H) : PS X e t' := ⟨fun pins s σ H D I q => h.run pins s σ H D I (hi _ _ _ q)⟩
theorem PSs.imp {X : Cx} {e : List Stmt} {t t' : TS} (h : PSs X e t) (hi : ∀ D σ H, t' D σ H → t D σ H) : PSs X e t' := ⟨fun pins s σ H D I q => h.run pins s σ H D I (hi _ _ _ q)⟩

section
variable {α β γ δ : Type} {K : PySem.W.Frag} {ρ ρ' ρ1 : Mp} {st st' st1 : Store} {H H' H1 : Hp} {n n' : Nat} {τ : En} {σ : St} {W : WX} {Ra : Rl α β} {Rg : Rl γ δ} [RlOk K Ra] [RlOk K Rg]
/-- the result is wanted from a later state on -/
theorem Out.shift {Q : β → Hp → Prop} {r : Rs α} (h : Out K Ra W σ ρ st.length H Q r) (r0 : R K ρ st H) (e : Ext ρ st.length H ρ1 st1.length H1) (r1 : R K ρ1 st1 H1) : Out K Ra W σ ρ1 st1.length H1 Q r := by
  cases r with
  | no => exact h
  | ok d st' => exact fun ρ' H' v e' r' q => h ρ' H' v (e.trans r0 r1 e') r' (RlOk.back (K := K) e r1 q)
  | er x st' => exact fun ρ' H' c dd e' r' q => h ρ' H' c dd (e.trans r0 r1 e') r' q
/-- one step, then the rest -/
theorem Out.bind {Q : δ → Hp → Prop} {Q1 : β → Hp → Prop} {r : Rs α} {k : α → Store → Rs γ} (r0 : R K ρ st H) (h : Out K Rg W σ ρ st.length H Q (r.bind k))
    (hk : ∀ d st1 ρ1 H1 v, Ext ρ st.length H ρ1 st1.length H1 → R K ρ1 st1 H1 → Ra H ρ1 st1 H1 d v → Out K Rg W σ ρ1 st1.length H1 Q (k d st1) → Q1 v H1) : Out K Ra W σ ρ st.length H Q1 r := by
  cases r with
  | no => exact h
  | ok d st1 => exact fun ρ1 H1 v e1 r1 q => hk d st1 ρ1 H1 v e1 r1 q (Out.shift h r0 e1 r1)
  | er x st1 => exact h
theorem Out.mono {Q Q' : β → Hp → Prop} {r : Rs α} (h : Out K Ra W σ ρ n H Q r) (hq : ∀ v H', Q v H' → Q' v H') : Out K Ra W σ ρ n H Q' r := by
  cases r with
  | no => exact h
  | ok d st1 => exact fun ρ1 H1 v e1 r1 q => hq _ _ (h ρ1 H1 v e1 r1 q)
  | er x st1 => exact h
/-- nothing happens to the heap -/
theorem Out.here {Q : β → Hp → Prop} {d : α} {v : β} (r0 : R K ρ st H) (h : Out K Ra W σ ρ st.length H Q (.ok d st)) (q : Ra H ρ st H d v) : Q v H := h ρ H v .refl r0 q
/-- a new object that is not the store's -/
theorem Out.free {Q : β → Hp → Prop} {d : α} {v : β} {p : Addr} {u : HO} (r0 : R K ρ st H) (h : Out K Ra W σ ρ st.length H Q (.ok d st)) (hp : H p = none) (q : Ra H ρ st (upd H p u) d v) : Q v (upd H p u) :=
  h ρ _ v (r0.push_ext hp) (r0.free hp) q
/-- the first step of a reading -/
theorem tM.bind {Q : δ → Hp → Prop} {Q1 : β → Hp → Prop} {m : En → Store → Rs α} {k : α → Store → Rs γ} (r0 : R K ρ st H) (e0 : EnvR K ρ st.length H τ σ) (h : Out K Rg W σ ρ st.length H Q ((m τ st).bind k))
    (hk : ∀ d st1 ρ1 H1 v, Ext ρ st.length H ρ1 st1.length H1 → R K ρ1 st1 H1 → EnvR K ρ1 st1.length H1 τ σ → Ra H ρ1 st1 H1 d v → Out K Rg W σ ρ1 st1.length H1 Q (k d st1) → Q1 v H1) : tM K Ra W m σ H Q1 :=
  ⟨ρ, τ, st, r0, e0, Out.bind r0 h fun d st1 ρ1 H1 v e1 r1 q o => hk d st1 ρ1 H1 v e1 r1 (e0.mono e1 r0) q o⟩
theorem tM.go {Q : β → Hp → Prop} {m : En → Store → Rs α} (r0 : R K ρ st H) (e0 : EnvR K ρ st.length H τ σ) (h : Out K Ra W σ ρ st.length H Q (m τ st)) : tM K Ra W m σ H Q := ⟨ρ, τ, st, r0, e0, h⟩
end

/-! ### names, constants -/
def mVar (i : Nat) : SE := fun σ st => match σ[i]? with
  | some (some d) => .ok d st
  | _ => .no
def mC (d : D) : SE := fun _ st => .ok d st
section
variable {X : Cx} {W : WX} {e a b c : Expr} {es : List Expr} {m ma mb mc : SE} {ms : SA} {pos : Pos}
theorem ev_of_var {i : Nat} (h : PE X e (tVar i)) : EvE X W e (mVar i) := PE.imp h fun σ H Q ⟨ρ, τ, st, r, en, o⟩ => by
  unfold mVar at o
  cases q : τ[i]? with
  | none => rw [q] at o; exact o.elim
  | some x =>
    cases x with
    | none => rw [q] at o; exact o.elim
    | some d =>
      rw [q] at o
      obtain ⟨v, hv, rv⟩ := en.2 i d q
      exact ⟨v, hv, o.here r rv⟩
theorem ev_var (i : Nat) {x : Str} (hN : X.N[i]? = some x := by rfl) (hv : Vis X.env.scope x := by first | exact Or.inl rfl | exact Or.inr (Or.inl rfl) | exact Or.inr (Or.inr rfl)) (hd : (x == ("__debug__" : Str)) = false := by decide)
    (hcd : (x == ("__classdict__" : Str)) = false := by decide) : EvE X W (.Name x pos) (mVar i) := ev_of_var (pe_var hN hv hd hcd)
theorem ev_of_const {d : D} {v : V} (h : PE X e (tC v)) (hr : ∀ ρ n H, RelD X.K ρ n H d v) : EvE X W e (mC d) := PE.imp h fun σ H Q ⟨ρ, τ, st, r, en, o⟩ => o.here r (hr _ _ _)
theorem ev_int {i : Int} {j} : EvE X W (.Constant (.int i) j pos) (mC (.int i)) := ev_of_const pe_int fun _ _ _ => by simp [RelD]
theorem ev_bl {i : Bool} {j} : EvE X W (.Constant (.bool i) j pos) (mC (.bl i)) := ev_of_const pe_bl fun _ _ _ => by simp [RelD]
theorem ev_non {j} : EvE X W (.Constant .none j pos) (mC .non) := ev_of_const pe_non fun _ _ _ => by simp [RelD]
theorem ev_str {i : Str} {j} : EvE X W (.Constant (.str i) j pos) (mC (.str i)) := ev_of_const pe_str fun _ _ _ => by simp [RelD]
/-- a def (or a class) of the module as a value -/
theorem ev_fn {x : Str} {f : Addr} (hg : Gl X x) (hm : X.mg x = some (.ref f)) (hd : (x == ("__debug__" : Str)) = false := by decide) : EvE X W (.Name x pos) (mC (.fn f)) := ev_of_const (pe_glob (v := .ref f) hg hm rfl hd) fun _ _ _ => by simp [RelD]
theorem ev_gint {x : Str} {i : Int} {t : Tok} (hg : Gl X x) (hm : X.mg x = some (.int i t)) (hd : (x == ("__debug__" : Str)) = false := by decide) : EvE X W (.Name x pos) (mC (.int i)) := ev_of_const (pe_glob (v := .int i) hg hm ⟨t, rfl⟩ hd) fun _ _ _ => by simp [RelD]
theorem ev_gstr {x : Str} {i : Str} {t : Tok} (hg : Gl X x) (hm : X.mg x = some (.str i t)) (hd : (x == ("__debug__" : Str)) = false := by decide) : EvE X W (.Name x pos) (mC (.str i)) := ev_of_const (pe_glob (v := .str i) hg hm ⟨t, rfl⟩ hd) fun _ _ _ => by simp [RelD]
theorem ev_ty {x : Str} {T : String} (hg : Gl X x) (hm : X.mg x = none) (hv : bootBuiltins x = some (.type T)) (hn : x ≠ "__name__" := by decide) (hd : (x == ("__debug__" : Str)) = false := by decide) : EvE X W (.Name x pos) (mC (.ty T)) :=
  ev_of_const (pe_bltn (v := .ty T) hg hm hv rfl hn hd) fun _ _ _ => by simp [RelD]

/-! ### arguments -/
def mNil : SA := fun _ st => .ok [] st
def mCons (m : SE) (ms : SA) : SA := fun σ st => (m σ st).bind fun d st1 => (ms σ st1).bind fun ds st2 => .ok (d :: ds) st2
theorem ea_nil : EvA X W [] mNil := PA.imp pa_nil fun σ H Q ⟨ρ, τ, st, r, en, o⟩ => o.here r RelDs.nil
theorem ea_cons (h : EvE X W e m) (ht : EvA X W es ms) (hs : starEach (e :: es) X.env = (false, eval e X.env) :: starEach es X.env := by rfl) : EvA X W (e :: es) (mCons m ms) :=
  PA.imp (pa_cons h ht hs) fun σ H Q ⟨ρ, τ, st, r, en, o⟩ => tM.bind r en o fun d st1 ρ1 H1 v e1 r1 en1 q o1 =>
    tM.bind r1 en1 o1 fun ds st2 ρ2 H2 vs e2 r2 en2 qs o2 => o2.here r2 (.cons (q.mono e2 r1) qs)

/-! ### operators -/
/-- an operator by values -/
def OpS (X : Cx) (g : Value → Value → Sem Value) (f : D → D → Store → Rs D) : Prop :=
  ∃ r, OpR X g r ∧ ∀ (W : WX) (σ : St) (ρ : Mp) (st : Store) (H : Hp) (x y : D) (vx vy : V) (Q : VK), R X.K ρ st H → RelD X.K ρ st.length H x vx → RelD X.K ρ st.length H y vy → Out X.K (reD X.K) W σ ρ st.length H Q (f x y st) → r vx vy H Q
def mOp (f : D → D → Store → Rs D) (ma mb : SE) : SE := fun σ st => (ma σ st).bind fun x st1 => (mb σ st1).bind fun y st2 => f x y st2
theorem tM.op {f : D → D → Store → Rs D} {r : R2} (hr : ∀ (W : WX) (σ : St) (ρ : Mp) (st : Store) (H : Hp) (x y : D) (vx vy : V) (Q : VK), R X.K ρ st H → RelD X.K ρ st.length H x vx → RelD X.K ρ st.length H y vy → Out X.K (reD X.K) W σ ρ st.length H Q (f x y st) → r vx vy H Q)
    {σ : St} {H : Hp} {Q : VK} (h : tM X.K (reD X.K) W (mOp f ma mb) σ H Q) : tOp r (tM X.K (reD X.K) W ma) (tM X.K (reD X.K) W mb) σ H Q := by
  obtain ⟨ρ, τ, st, r0, en, o⟩ := h
  exact tM.bind r0 en o fun x st1 ρ1 H1 vx e1 r1 en1 qx o1 => tM.bind r1 en1 o1 fun y st2 ρ2 H2 vy e2 r2 en2 qy o2 => hr W σ ρ2 st2 H2 x y vx vy Q r2 (qx.mono e2 r1) qy o2
theorem ev_op {op : Operator} {f : D → D → Store → Rs D} (ho : OpS X (binaryOp op) f) (ha : EvE X W a ma) (hb : EvE X W b mb) : EvE X W (.BinOp a op b pos) (mOp f ma mb) := by
  obtain ⟨r, h1, h2⟩ := ho
  exact PE.imp (pe_op h1 ha hb) fun σ H Q h => tM.op h2 h
theorem ev_cmp {op : CmpOp} {f : D → D → Store → Rs D} (ho : OpS X (compareOp op) f) (ha : EvE X W a ma) (hb : EvE X W b mb) (hm : behindInMarks op b = false) : EvE X W (.Compare a [op] [b] pos) (mOp f ma mb) := by
  obtain ⟨r, h1, h2⟩ := ho
  exact PE.imp (pe_cmpR h1 ha hb hm) fun σ H Q h => tM.op h2 h
/-- a value that is a bool, as a test -/
def asB (r : Rs D) : Rs Bool := r.bind fun d st => match d with
  | .bl b => .ok b st
  | _ => .no
def mB (m : SE) : SB := fun σ st => asB (m σ st)
theorem tM.tst {σ : St} {H : Hp} {Q : Bool → Hp → Prop} (h : tM X.K reB W (mB m) σ H Q) : tM X.K (reD X.K) W m σ H fun x H' => ∃ k, x = .bl k ∧ Q k H' := by
  obtain ⟨ρ, τ, st, r0, en, o⟩ := h
  refine tM.bind r0 en o fun d st1 ρ1 H1 v e1 r1 en1 q o1 => ?_
  cases d with
  | bl b => simp only [RelD] at q; exact ⟨b, q, o1.here r1 rfl⟩
  | _ => exact o1.elim
theorem et_val (h : EvE X W e m) (he : ∀ whole, isTrue e X.env whole = (do let v ← whole; standAt e.pos; holding [v] (truthy v)) := by intro _; rfl) : EvB X W e (mB m) :=
  PT.imp (pt_val h he) fun σ H Q h => tM.tst h
theorem et_cmp {op : CmpOp} {f : D → D → Store → Rs D} (ho : OpS X (compareOp op) f) (ha : EvE X W a ma) (hb : EvE X W b mb) (hm : behindInMarks op b = false) : EvB X W (.Compare a [op] [b] pos) (mB (mOp f ma mb)) := by
  obtain ⟨r, h1, h2⟩ := ho
  refine PT.imp (pt_cmpR h1 ha hb hm) fun σ H Q h => ?_
  exact tM.op h2 (tM.tst h)
/-! ### and, or, not -/
variable {t u : SB} {rest : List Expr}
def mAnd (t u : SB) : SB := fun σ st => (t σ st).bind fun c st1 => if c = true then u σ st1 else .ok false st1
def mOr (t u : SB) : SB := fun σ st => (t σ st).bind fun c st1 => if c = true then .ok true st1 else u σ st1
def mNot (t : SB) : SB := fun σ st => (t σ st).bind fun c st1 => .ok (!c) st1
theorem et_of (h : EvW X W e t) : EvB X W e t := PW.pt h
theorem ew_and1 (h : EvB X W a t) : EvW X W (.BoolOp .And [a] pos) t := pw_and1 h
theorem ew_or1 (h : EvB X W a t) : EvW X W (.BoolOp .Or [a] pos) t := pw_or1 h
theorem ew_and (h : EvB X W a t) (h2 : EvW X W (.BoolOp .And (b :: rest) pos) u) : EvW X W (.BoolOp .And (a :: b :: rest) pos) (mAnd t u) := PW.imp (pw_and h h2) fun σ H Q ⟨ρ, τ, st, r0, en, o⟩ =>
  tM.bind r0 en o fun c st1 ρ1 H1 k e1 r1 en1 q o1 => by
    cases (show c = k from q)
    cases c with
    | true => exact tM.go r1 en1 o1
    | false => exact o1.here r1 rfl
theorem ew_or (h : EvB X W a t) (h2 : EvW X W (.BoolOp .Or (b :: rest) pos) u) : EvW X W (.BoolOp .Or (a :: b :: rest) pos) (mOr t u) := PW.imp (pw_or h h2) fun σ H Q ⟨ρ, τ, st, r0, en, o⟩ =>
  tM.bind r0 en o fun c st1 ρ1 H1 k e1 r1 en1 q o1 => by
    cases (show c = k from q)
    cases c with
    | false => exact tM.go r1 en1 o1
    | true => exact o1.here r1 rfl
theorem et_not (h : EvB X W a t) : EvB X W (.UnaryOp .Not a pos) (mNot t) := PT.imp (pt_not h) fun σ H Q ⟨ρ, τ, st, r0, en, o⟩ =>
  tM.bind r0 en o fun c st1 ρ1 H1 k e1 r1 en1 q o1 => by
    cases (show c = k from q)
    exact o1.here r1 rfl
/-- .. as values that are bools -/
def mAndV (ma mb : SE) : SE := fun σ st => (ma σ st).bind fun x st1 => match x with
  | .bl true => mb σ st1
  | .bl false => .ok (.bl false) st1
  | _ => .no
def mOrV (ma mb : SE) : SE := fun σ st => (ma σ st).bind fun x st1 => match x with
  | .bl false => mb σ st1
  | .bl true => .ok (.bl true) st1
  | _ => .no
def mNotV (ma : SE) : SE := fun σ st => (ma σ st).bind fun x st1 => match x with
  | .bl b => .ok (.bl (!b)) st1
  | _ => .no
theorem ev_one {op} (h : EvE X W a m) : EvE X W (.BoolOp op [a] pos) m := pe_one h
theorem ev_and (h : EvE X W a ma) (h2 : EvE X W (.BoolOp .And (b :: rest) pos) mb) : EvE X W (.BoolOp .And (a :: b :: rest) pos) (mAndV ma mb) := PE.imp (pe_and h h2) fun σ H Q ⟨ρ, τ, st, r0, en, o⟩ =>
  tM.bind r0 en o fun x st1 ρ1 H1 v e1 r1 en1 q o1 => by
    cases x with
    | bl c =>
      simp only [RelD] at q
      refine ⟨c, q, ?_⟩
      cases c with
      | true => exact tM.go r1 en1 o1
      | false => exact o1.here r1 (by simp [reD, RelD])
    | _ => exact o1.elim
theorem ev_or (h : EvE X W a ma) (h2 : EvE X W (.BoolOp .Or (b :: rest) pos) mb) : EvE X W (.BoolOp .Or (a :: b :: rest) pos) (mOrV ma mb) := PE.imp (pe_or h h2) fun σ H Q ⟨ρ, τ, st, r0, en, o⟩ =>
  tM.bind r0 en o fun x st1 ρ1 H1 v e1 r1 en1 q o1 => by
    cases x with
    | bl c =>
      simp only [RelD] at q
      refine ⟨c, q, ?_⟩
      cases c with
      | false => exact tM.go r1 en1 o1
      | true => exact o1.here r1 (by simp [reD, RelD])
    | _ => exact o1.elim
theorem ev_not (h : EvE X W a ma) : EvE X W (.UnaryOp .Not a pos) (mNotV ma) := PE.imp (pe_not h) fun σ H Q ⟨ρ, τ, st, r0, en, o⟩ =>
  tM.bind r0 en o fun x st1 ρ1 H1 v e1 r1 en1 q o1 => by
    cases x with
    | bl c =>
      simp only [RelD] at q
      exact ⟨c, q, o1.here r1 (by simp [reD, RelD])⟩
    | _ => exact o1.elim
def mIf (t : SB) (ma mb : SE) : SE := fun σ st => (t σ st).bind fun c st1 => if c = true then ma σ st1 else mb σ st1
theorem ev_if (h : EvB X W c t) (ha : EvE X W a ma) (hb : EvE X W b mb) : EvE X W (.IfExp c a b pos) (mIf t ma mb) := PE.imp (pe_ifExp h ha hb) fun σ H Q ⟨ρ, τ, st, r0, en, o⟩ =>
  tM.bind r0 en o fun c st1 ρ1 H1 k e1 r1 en1 q o1 => by
    cases (show c = k from q)
    cases c with
    | true => exact tM.go r1 en1 o1
    | false => exact tM.go r1 en1 o1
/-! ### displays -/
def mTup (ms : SA) : SE := fun σ st => (ms σ st).bind fun ds st1 => .ok (.tup ds) st1
def mNew (ms : SA) : SE := fun σ st => (ms σ st).bind fun ds st1 => .ok (.loc st1.length) (st1 ++ [.lst ds])
def mFrz (ms : SA) : SE := fun σ st => (ms σ st).bind fun ds st1 => .ok (.lst ds) st1
def LenA (ms : SA) (k : Nat) : Prop := ∀ σ st ds st', ms σ st = .ok ds st' → ds.length = k
theorem lenA_nil : LenA mNil 0 := fun σ st ds st' h => by unfold mNil at h; cases h; rfl
theorem lenA_cons {k : Nat} (h : LenA ms k) : LenA (mCons m ms) (k + 1) := fun σ st ds st' q => by
  unfold mCons at q
  cases e1 : m σ st with
  | no => rw [e1] at q; cases q
  | er x s => rw [e1] at q; cases q
  | ok d s1 =>
    rw [e1] at q
    simp only [Rs.bind_ok] at q
    cases e2 : ms σ s1 with
    | no => rw [e2] at q; cases q
    | er x s => rw [e2] at q; cases q
    | ok r s2 =>
      rw [e2] at q
      simp only [Rs.bind_ok] at q
      cases q
      simp [h _ _ _ _ e2]
theorem len100 {k : Nat} (h : k ≤ 100) : k ≤ sizeLine := Nat.le_trans h (by decide)
theorem ev_tup {x1} {k : Nat} (h : EvA X W es ms) (hl : LenA ms k) (hk : k ≤ 100 := by decide) : EvE X W (.Tuple es x1 pos) (mTup ms) := PE.imp (pe_tup h) fun σ H Q ⟨ρ, τ, st, r0, en, o⟩ => by
  refine ⟨ρ, τ, st, r0, en, ?_⟩
  cases q : ms τ st with
  | no => simp only [mTup, q] at o; exact o
  | er x s => simp only [mTup, q] at o; exact o
  | ok ds st1 =>
    simp only [mTup, q] at o
    intro ρ1 H1 vs e1 r1 rv
    refine ⟨by rw [rv.len, hl _ _ _ _ q]; exact len100 hk, fun p hp => ?_⟩
    refine (Out.shift o r0 e1 r1).free r1 hp ?_
    simp only [reD, RelD]
    exact ⟨p, vs, rfl, upd_same, RelDs.mono (r1.push_ext hp) r1 ds rv⟩
/-- a new list, laid into the store -/
theorem Out.alloc {α : Type} {K : PySem.W.Frag} {ρ : Mp} {st : Store} {H : Hp} {σ : St} {Q : VK} {p : Addr} {u : HO} {o : O} (r0 : R K ρ st H) (h : Out K (reD K) W σ ρ st.length H Q (.ok (.loc st.length) (st ++ [o]))) (hp : H p = none)
    (q : ObjR K (put ρ st.length p) (st.length + 1) (upd H p u) o p) : Q (.ref p) (upd H p u) := by
  refine h (put ρ st.length p) _ (.ref p) ?_ (r0.alloc hp q) ?_
  · rw [List.length_append, List.length_singleton]; exact put_ext hp
  · simp only [reD, RelD, put_at, List.length_append, List.length_singleton]
    exact ⟨trivial, Nat.lt_succ_self _⟩
/-- a display of a list is new -/
theorem Out.fresh {K : PySem.W.Frag} {ρ : Mp} {st : Store} {H : Hp} {σ : St} {Q : VK} {p : Addr} {ds : List D} {vs : List V} (r0 : R K ρ st H) (h : Out K (reN K) W σ ρ st.length H Q (.ok ds st)) (hp : H p = none) (q : RelDs K ρ st.length H ds vs) : Q (.ref p) (upd H p (.lst vs)) :=
  h ρ _ (.ref p) (r0.push_ext hp) (r0.free hp) ⟨p, vs, rfl, hp, upd_same, r0.hide hp rfl, RelDs.hide hp ds q⟩
theorem ef_lst {k : Nat} (h : EvA X W es ms) (hl : LenA ms k) (hk : k ≤ 100 := by decide) : EvF X W (.List es pos) ms := PE.imp (pe_lst h) fun σ H Q ⟨ρ, τ, st, r0, en, o⟩ => by
  refine ⟨ρ, τ, st, r0, en, ?_⟩
  cases q : ms τ st with
  | no => rw [q] at o; exact o
  | er x s => rw [q] at o; exact o
  | ok ds st1 =>
    rw [q] at o
    intro ρ1 H1 vs e1 r1 rv
    refine ⟨by rw [rv.len, hl _ _ _ _ q]; exact len100 hk, fun p hp => ?_⟩
    exact (Out.shift o r0 e1 r1).fresh r1 hp rv
/-- a new list, as one that is only read -/
theorem tM.frz {σ : St} {H : Hp} {Q : VK} (h : tM X.K (reD X.K) W (mFrz ms) σ H Q) : tM X.K (reN X.K) W ms σ H Q := by
  obtain ⟨ρ, τ, st, r0, en, o⟩ := h
  exact tM.bind r0 en o fun ds st1 ρ1 H1 v e1 r1 en1 q o1 => by
    obtain ⟨a, vs, rfl, h0, ha, rh, rv⟩ := q
    refine o1.here r1 ?_
    simp only [reD, RelD]
    refine ⟨a, vs, rfl, .inl ⟨.inl ha, fun i hi z => rh.sep i hi (.inr z), fun z => ?_⟩, RelDs.show' ds rv⟩
    have z' : ρ.hid a := by rw [← e1.hid]; exact z
    exact r0.nh_none h0 z'
theorem ev_frz (h : EvF X W e ms) : EvE X W e (mFrz ms) := PE.imp h fun σ H Q q => tM.frz q
mutual
theorem RelD.told {K : PySem.W.Frag} {ρ : Mp} {n : Nat} {H : Hp} {p : Addr} : ∀ (d : D) {v : V}, RelD K (ρ.hide p) n H d v → RelD K (put ρ n p) (n + 1) H d v
  | .non, v, h => by simpa only [RelD] using h
  | .bl b, v, h => by simpa only [RelD] using h
  | .int b, v, h => by simpa only [RelD] using h
  | .str b, v, h => by simpa only [RelD] using h
  | .ty b, v, h => by simpa only [RelD] using h
  | .fn b, v, h => by simpa only [RelD] using h
  | .tup xs, v, h => by
    simp only [RelD] at h ⊢
    obtain ⟨a, vs, rfl, s, q⟩ := h
    exact ⟨a, vs, rfl, s, RelDs.told xs q⟩
  | .lst xs, v, h => by
    simp only [RelD] at h ⊢
    obtain ⟨a, vs, rfl, s, q⟩ := h
    refine ⟨a, vs, rfl, ?_, RelDs.told xs q⟩
    rcases s with ⟨h, ni, nh⟩ | h
    · refine .inl ⟨h, fun i hi z => ?_, fun z => nh (.inl z)⟩
      by_cases e : i = n
      · rw [e, put_at] at z; exact nh (.inr z.symm)
      · rw [put_ne e] at z; exact ni i (by omega) z
    · exact .inr h
  | .loc i, v, h => by
    simp only [RelD] at h ⊢
    rw [put_ne (Nat.ne_of_lt h.2)]
    exact ⟨h.1, Nat.lt_succ_of_lt h.2⟩
theorem RelDs.told {K : PySem.W.Frag} {ρ : Mp} {n : Nat} {H : Hp} {p : Addr} : ∀ (ds : List D) {vs : List V}, RelDs K (ρ.hide p) n H ds vs → RelDs K (put ρ n p) (n + 1) H ds vs
  | [], vs, h => by simpa only [RelDs] using h
  | d :: ds, vs, h => by
    simp only [RelDs] at h ⊢
    obtain ⟨v, w, rfl, h1, h2⟩ := h
    exact ⟨v, w, rfl, RelD.told d h1, RelDs.told ds h2⟩
end
theorem R.told {K : PySem.W.Frag} {ρ : Mp} {st : Store} {H : Hp} {p : Addr} {ds : List D} {vs : List V} (r : R K (ρ.hide p) st H) (np : ¬ ρ.hid p) (hp : H p = some (.lst vs)) (rv : RelDs K (ρ.hide p) st.length H ds vs) : R K (put ρ st.length p) (st ++ [.lst ds]) H := by
  have sep : ∀ i, i < st.length → ρ.at' i ≠ p := fun i hi z => r.sep i hi (.inr z)
  refine ⟨fun i x h => ?_, fun i j hi hj e => ?_, fun a h => r.hid a (.inl h), fun i hi => ?_⟩
  · rw [List.length_append, List.length_singleton]
    by_cases hi : i < st.length
    · rw [List.getElem?_append_left hi] at h
      rw [put_ne (Nat.ne_of_lt hi)]
      have q := r.obj i x h
      revert q
      cases x with
      | lst ds => rintro ⟨vs, h, q⟩; exact ⟨vs, h, RelDs.told ds q⟩
      | dk ds => rintro ⟨vs, h, q⟩; exact ⟨vs, h, Paired.monoP q fun p q z => ⟨z.1, RelD.told _ z.2⟩⟩
      | dt ds => rintro ⟨vs, h, q⟩; exact ⟨vs, h, Paired.monoP q fun p q z => ⟨z.1, RelD.told _ z.2⟩⟩
    · have hl : i = st.length := by
        have := (List.getElem?_eq_some_iff.mp h).1
        simp at this; omega
      subst hl
      simp at h; subst h
      rw [put_at]; exact ⟨vs, hp, RelDs.told ds rv⟩
  · rw [List.length_append, List.length_singleton] at hi hj
    by_cases h1 : i = st.length
    · by_cases h2 : j = st.length
      · rw [h1, h2]
      · rw [h1, put_at, put_ne h2] at e
        exact absurd e.symm (sep j (by omega))
    · by_cases h2 : j = st.length
      · rw [h2, put_at, put_ne h1] at e
        exact absurd e (sep i (by omega))
      · rw [put_ne h1, put_ne h2] at e
        exact r.inj i j (by omega) (by omega) e
  · rw [List.length_append, List.length_singleton] at hi
    by_cases h1 : i = st.length
    · rw [h1, put_at]; exact np
    · rw [put_ne h1]; exact fun z => r.sep i (by omega) (.inl z)
/-- a new list, laid into the store -/
theorem tM.new {σ : St} {H : Hp} {Q : VK} (h : tM X.K (reD X.K) W (mNew ms) σ H Q) : tM X.K (reN X.K) W ms σ H Q := by
  obtain ⟨ρ, τ, st, r0, en, o⟩ := h
  refine ⟨ρ, τ, st, r0, en, ?_⟩
  cases q : ms τ st with
  | no => simp only [mNew, q] at o; exact o
  | er x s => simp only [mNew, q] at o; exact o
  | ok ds st1 =>
    simp only [mNew, q] at o
    rintro ρ1 H1 v e1 r1 ⟨a, vs, rfl, h0, ha, rh, rv⟩
    have np : ¬ ρ1.hid a := by rw [e1.hid]; exact r0.nh_none h0
    refine o (put ρ1 st1.length a) H1 (.ref a) ?_ (rh.told np ha rv) ?_
    · rw [List.length_append, List.length_singleton]
      refine ⟨Nat.le_succ_of_le e1.le, fun i hi => (put_ne (by have := e1.le; omega)).trans (e1.old i hi), fun i h1 h2 => ?_, e1.keep, e1.hid⟩
      by_cases e : i = st1.length
      · rw [e, put_at]; exact h0
      · rw [put_ne e]; exact e1.new i h1 (by omega)
    · simp only [reD, RelD, put_at, List.length_append, List.length_singleton]
      exact ⟨trivial, Nat.lt_succ_self _⟩
theorem ev_new (h : EvF X W e ms) : EvE X W e (mNew ms) := PE.imp h fun σ H Q q => tM.new q
end
end Fx

set_option Elab.async false
set_option linter.all false
set_option maxRecDepth 100000
set_option maxHeartbeats 4000000
namespace Fx
open PySem L2

/-! ### statements -/
def OutS (K : PySem.W.Frag) (W : WX) (ρ : Mp) (n : Nat) (H : Hp) (D : Ends) : Rt → Prop
  | .no => False
  | .nx τ' st' => ∀ ρ' H' σ', Ext ρ n H ρ' st'.length H' → R K ρ' st' H' → EnvR K ρ' st'.length H' τ' σ' → D.nx σ' H'
  | .rt d st' => ∀ ρ' H' v, Ext ρ n H ρ' st'.length H' → R K ρ' st' H' → RelD K ρ' st'.length H' d v → D.rt v H'
  | .bk τ' st' => ∀ ρ' H' σ', Ext ρ n H ρ' st'.length H' → R K ρ' st' H' → EnvR K ρ' st'.length H' τ' σ' → D.bk σ' H'
  | .ct τ' st' => ∀ ρ' H' σ', Ext ρ n H ρ' st'.length H' → R K ρ' st' H' → EnvR K ρ' st'.length H' τ' σ' → D.ct σ' H'
  | .er x τ' st' => ∀ ρ' H' σ' cls dd, Ext ρ n H ρ' st'.length H' → R K ρ' st' H' → EnvR K ρ' st'.length H' τ' σ' → ExR K ρ' st'.length H' x cls dd → W cls dd σ' H'
def tSt (K : PySem.W.Frag) (W : WX) (m : SS) : TS := fun D σ H =>
  ∃ (ρ : Mp) (τ : En) (st : Store), R K ρ st H ∧ EnvR K ρ st.length H τ σ ∧ OutS K W ρ st.length H D (m τ st)
abbrev EvS (X : Cx) (W : WX) (s : Stmt) (m : SS) : Prop := PS X s (tSt X.K W m)
abbrev EvSs (X : Cx) (W : WX) (ss : List Stmt) (m : SS) : Prop := PSs X ss (tSt X.K W m)

/-- an expression's result, in a statement -/
def Rs.go {α : Type} (r : Rs α) (τ : En) (k : α → Store → Rt) : Rt := match r with
  | .no => .no
  | .ok a st => k a st
  | .er x st => .er x τ st
@[simp] theorem Rs.go_no {α : Type} (τ : En) (k : α → Store → Rt) : (Rs.no : Rs α).go τ k = .no := rfl
@[simp] theorem Rs.go_ok {α : Type} (a : α) (st : Store) (τ : En) (k : α → Store → Rt) : (Rs.ok a st).go τ k = k a st := rfl
@[simp] theorem Rs.go_er {α : Type} (x : Ex) (st : Store) (τ : En) (k : α → Store → Rt) : (Rs.er x st : Rs α).go τ k = .er x τ st := rfl
/-- a statement, then the rest -/
def Rt.seq (r : Rt) (k : En → Store → Rt) : Rt := match r with
  | .nx τ st => k τ st
  | r => r
@[simp] theorem Rt.seq_no (k : En → Store → Rt) : Rt.no.seq k = .no := rfl
@[simp] theorem Rt.seq_nx (τ : En) (st : Store) (k : En → Store → Rt) : (Rt.nx τ st).seq k = k τ st := rfl
@[simp] theorem Rt.seq_rt (d : D) (st : Store) (k : En → Store → Rt) : (Rt.rt d st).seq k = .rt d st := rfl
@[simp] theorem Rt.seq_bk (τ : En) (st : Store) (k : En → Store → Rt) : (Rt.bk τ st).seq k = .bk τ st := rfl
@[simp] theorem Rt.seq_ct (τ : En) (st : Store) (k : En → Store → Rt) : (Rt.ct τ st).seq k = .ct τ st := rfl
@[simp] theorem Rt.seq_er (x : Ex) (τ : En) (st : Store) (k : En → Store → Rt) : (Rt.er x τ st).seq k = .er x τ st := rfl

/-- what a loop's body does, for the loop -/
def Rt.loop (r : Rt) (k : En → Store → Rt) : Rt := match r with
  | .nx τ st => k τ st
  | .ct τ st => k τ st
  | .bk τ st => .nx τ st
  | r => r
@[simp] theorem Rt.loop_no (k : En → Store → Rt) : Rt.no.loop k = .no := rfl
@[simp] theorem Rt.loop_nx (τ : En) (st : Store) (k : En → Store → Rt) : (Rt.nx τ st).loop k = k τ st := rfl
@[simp] theorem Rt.loop_rt (d : D) (st : Store) (k : En → Store → Rt) : (Rt.rt d st).loop k = .rt d st := rfl
@[simp] theorem Rt.loop_bk (τ : En) (st : Store) (k : En → Store → Rt) : (Rt.bk τ st).loop k = .nx τ st := rfl
@[simp] theorem Rt.loop_ct (τ : En) (st : Store) (k : En → Store → Rt) : (Rt.ct τ st).loop k = k τ st := rfl
@[simp] theorem Rt.loop_er (x : Ex) (τ : En) (st : Store) (k : En → Store → Rt) : (Rt.er x τ st).loop k = .er x τ st := rfl
section
variable {α β : Type} {K : PySem.W.Frag} {ρ ρ' ρ1 : Mp} {st st' st1 : Store} {H H' H1 : Hp} {n n' : Nat} {τ : En} {σ : St} {W : WX} {Ra : Rl α β} [RlOk K Ra] {D : Ends}
theorem OutS.shift {r : Rt} (h : OutS K W ρ st.length H D r) (r0 : R K ρ st H) (e : Ext ρ st.length H ρ1 st1.length H1) (r1 : R K ρ1 st1 H1) : OutS K W ρ1 st1.length H1 D r := by
  cases r with
  | no => exact h
  | nx a b => exact fun ρ' H' v e' r' q => h ρ' H' v (e.trans r0 r1 e') r' q
  | rt a b => exact fun ρ' H' v e' r' q => h ρ' H' v (e.trans r0 r1 e') r' q
  | bk a b => exact fun ρ' H' v e' r' q => h ρ' H' v (e.trans r0 r1 e') r' q
  | ct a b => exact fun ρ' H' v e' r' q => h ρ' H' v (e.trans r0 r1 e') r' q
  | er x a b => exact fun ρ' H' σ' c dd e' r' q z => h ρ' H' σ' c dd (e.trans r0 r1 e') r' q z
theorem OutS.go {r : Rs α} {k : α → Store → Rt} {Q1 : β → Hp → Prop} (r0 : R K ρ st H) (en : EnvR K ρ st.length H τ σ) (h : OutS K W ρ st.length H D (r.go τ k))
    (hk : ∀ d st1 ρ1 H1 v, Ext ρ st.length H ρ1 st1.length H1 → R K ρ1 st1 H1 → EnvR K ρ1 st1.length H1 τ σ → Ra H ρ1 st1 H1 d v → OutS K W ρ1 st1.length H1 D (k d st1) → Q1 v H1) : Out K Ra W σ ρ st.length H Q1 r := by
  cases r with
  | no => exact h
  | ok d st1 => exact fun ρ1 H1 v e1 r1 q => hk d st1 ρ1 H1 v e1 r1 (en.mono e1 r0) q (OutS.shift h r0 e1 r1)
  | er x st1 => exact fun ρ1 H1 c dd e1 r1 q => h ρ1 H1 σ c dd e1 r1 (en.mono e1 r0) q
theorem tM.goS {m : En → Store → Rs α} {k : α → Store → Rt} {Q1 : β → Hp → Prop} (r0 : R K ρ st H) (en : EnvR K ρ st.length H τ σ) (h : OutS K W ρ st.length H D ((m τ st).go τ k))
    (hk : ∀ d st1 ρ1 H1 v, Ext ρ st.length H ρ1 st1.length H1 → R K ρ1 st1 H1 → EnvR K ρ1 st1.length H1 τ σ → Ra H ρ1 st1 H1 d v → OutS K W ρ1 st1.length H1 D (k d st1) → Q1 v H1) : tM K Ra W m σ H Q1 :=
  ⟨ρ, τ, st, r0, en, OutS.go r0 en h hk⟩
theorem OutS.next {D : Ends} {τ' : En} {σ' : St} (r0 : R K ρ st H) (h : OutS K W ρ st.length H D (.nx τ' st)) (en : EnvR K ρ st.length H τ' σ') : D.nx σ' H := h ρ H σ' .refl r0 en
end

section
variable {X : Cx} {W : WX} {e a b c : Expr} {es : List Expr} {s : Stmt} {ss bs : List Stmt} {m ma mb mc : SE} {t : SB} {u v w : SS} {pos : Pos}
def sSkip : SS := fun τ st => .nx τ st
def sSeq (u v : SS) : SS := fun τ st => (u τ st).seq v
def sExpr (m : SE) : SS := fun τ st => (m τ st).go τ fun _ st1 => .nx τ st1
def sRet (m : SE) : SS := fun τ st => (m τ st).go τ fun d st1 => .rt d st1
def sRetN : SS := fun _ st => .rt .non st
def sIf (t : SB) (u v : SS) : SS := fun τ st => (t τ st).go τ fun c st1 => if c = true then u τ st1 else v τ st1
def sSet (i : Nat) (m : SE) : SS := fun τ st => (m τ st).go τ fun d st1 => .nx (τ.set i (some d)) st1
def sBrk : SS := fun τ st => .bk τ st
def sCnt : SS := fun τ st => .ct τ st
def sNo : SS := fun _ _ => .no
theorem es_nil : EvSs X W [] sSkip := PSs.imp pss_nil fun D σ H ⟨ρ, τ, st, r0, en, o⟩ => o.next r0 en
theorem es_pass : EvS X W (.Pass pos) sSkip := PS.imp ps_pass fun D σ H ⟨ρ, τ, st, r0, en, o⟩ => o.next r0 en
theorem es_brk : EvS X W (.Break pos) sBrk := PS.imp ps_break fun D σ H ⟨ρ, τ, st, r0, en, o⟩ => o ρ H σ .refl r0 en
theorem es_cnt : EvS X W (.Continue pos) sCnt := PS.imp ps_continue fun D σ H ⟨ρ, τ, st, r0, en, o⟩ => o ρ H σ .refl r0 en
theorem es_no : EvS X W s sNo := PS.imp ps_never fun D σ H ⟨ρ, τ, st, r0, en, o⟩ => o
theorem es_one (h : EvS X W s u) : EvSs X W [s] u := pss_one h
theorem es_cons (h : EvS X W s u) (h2 : EvSs X W ss v) : EvSs X W (s :: ss) (sSeq u v) := PSs.imp (pss_cons h h2) fun D σ H ⟨ρ, τ, st, r0, en, o⟩ => by
  refine ⟨ρ, τ, st, r0, en, ?_⟩
  unfold sSeq at o
  cases q : u τ st with
  | no => rw [q] at o; exact o
  | nx a b => rw [q] at o; exact fun ρ' H' σ' e r en' => ⟨ρ', a, b, r, en', OutS.shift o r0 e r⟩
  | rt a b => rw [q] at o; exact o
  | bk a b => rw [q] at o; exact o
  | ct a b => rw [q] at o; exact o
  | er x a b => rw [q] at o; exact o
theorem es_expr (h : EvE X W e m) (hs : swapsWith e none pos.line X.env = pure false := by rfl) : EvS X W (.Expr e pos) (sExpr m) := PS.imp (ps_expr h hs) fun D σ H ⟨ρ, τ, st, r0, en, o⟩ =>
  tM.goS r0 en o fun d st1 ρ1 H1 v e1 r1 en1 q o1 => o1.next r1 en1
theorem es_ret (h : EvE X W e m) : EvS X W (.Return (some e) pos) (sRet m) := PS.imp (ps_ret h) fun D σ H ⟨ρ, τ, st, r0, en, o⟩ =>
  tM.goS r0 en o fun d st1 ρ1 H1 v e1 r1 en1 q o1 => o1 ρ1 H1 v .refl r1 q
theorem es_retN : EvS X W (.Return none pos) sRetN := PS.imp ps_retN fun D σ H ⟨ρ, τ, st, r0, en, o⟩ => o ρ H .non .refl r0 (by simp [RelD])
theorem es_if (h : EvB X W c t) (ha : EvSs X W ss u) (hb : EvSs X W bs v) : EvS X W (.If c ss bs pos) (sIf t u v) := PS.imp (ps_if h ha hb) fun D σ H ⟨ρ, τ, st, r0, en, o⟩ =>
  tM.goS r0 en o fun k st1 ρ1 H1 k' e1 r1 en1 q o1 => by
    cases (show k = k' from q)
    cases k with
    | true => exact ⟨ρ1, τ, st1, r1, en1, o1⟩
    | false => exact ⟨ρ1, τ, st1, r1, en1, o1⟩
theorem es_set (i : Nat) {x : Str} {pos' : Pos} (hN : X.N.Nodup) (he : EvE X W e m) (hi : X.N[i]? = some x := by rfl) (hx : Loc X.env.scope x := by first | exact Or.inl rfl | exact Or.inr rfl) (hs : swapsWith e (some (.Name x pos')) pos.line X.env = pure false := by rfl)
    (hf : X.fn x = true ∨ X.env.scope.names.lookup x = some .local := by first | exact .inl rfl | exact .inr rfl | assumption) : EvS X W (.Assign [.Name x pos'] e pos) (sSet i m) :=
  PS.imp (ps_set hN hi hx he hs hf) fun D σ H ⟨ρ, τ, st, r0, en, o⟩ => tM.goS r0 en o fun d st1 ρ1 H1 v e1 r1 en1 q o1 => o1.next r1 (en1.set q i)

/-! ### targets of names -/
abbrev SG := D → En → Option En
def tG (K : PySem.W.Frag) (vs : List Nat) (g : SG) : TG := fun v σ H Q => ∃ (ρ : Mp) (τ : En) (st : Store) (d : D), R K ρ st H ∧ EnvR K ρ st.length H τ σ ∧ RelD K ρ st.length H d v ∧
  match g d τ with
  | none => False
  | some τ' => ∀ σ', EnvR K ρ st.length H τ' σ' → wipe σ' vs = wipe σ vs → Q σ' H
def tGs (K : PySem.W.Frag) (vs : List Nat) (g : List D → En → Option En) : TGs := fun us σ H Q => ∃ (ρ : Mp) (τ : En) (st : Store) (ds : List D), R K ρ st H ∧ EnvR K ρ st.length H τ σ ∧ RelDs K ρ st.length H ds us ∧
  match g ds τ with
  | none => False
  | some τ' => ∀ σ', EnvR K ρ st.length H τ' σ' → wipe σ' vs = wipe σ vs → Q σ' H
abbrev EvG (X : Cx) (vs : List Nat) (tg : Expr) (g : SG) : Prop := PG X tg (tG X.K vs g)
abbrev EvGs (X : Cx) (vs : List Nat) (tgs : List Expr) (g : List D → En → Option En) : Prop := PGs X tgs (tGs X.K vs g)
theorem PG.imp {X : Cx} {e : Expr} {t t' : TG} (h : PG X e t) (hi : ∀ v σ H Q, t' v σ H Q → t v σ H Q) : PG X e t' := ⟨fun pins s σ H v u Q I r q => h.run pins s σ H v u Q I r (hi _ _ _ _ q)⟩
theorem PGs.imp {X : Cx} {e : List Expr} {t t' : TGs} (h : PGs X e t) (hi : ∀ v σ H Q, t' v σ H Q → t v σ H Q) : PGs X e t' := ⟨fun pins s σ H v u Q I r q => h.run pins s σ H v u Q I r (hi _ _ _ _ q)⟩
theorem wipe_get {σ : St} {j : Nat} : ∀ {vs : List Nat}, (wipe σ vs)[j]? = if j ∈ vs then (σ[j]?).map (fun _ => none) else σ[j]?
  | [] => by simp [wipe]
  | v :: vs => by
    show ((wipe σ vs).set v none)[j]? = _
    rw [List.getElem?_set]
    by_cases hj : v = j
    · subst hj
      rw [if_pos rfl, if_pos List.mem_cons_self, wipe_length]
      split
      · rw [List.getElem?_eq_getElem (by assumption)]; rfl
      · rw [List.getElem?_eq_none (by omega)]; rfl
    · rw [if_neg hj, wipe_get]
      have : (j ∈ v :: vs) = (j ∈ vs) := by simp [Ne.symm hj]
      simp only [this]
theorem wipe_set {σ : St} {i : Nat} {x : Option V} {vs : List Nat} (h : i ∈ vs) : wipe (σ.set i x) vs = wipe σ vs := by
  refine List.ext_getElem? fun j => ?_
  rw [wipe_get, wipe_get, List.getElem?_set]
  by_cases hj : j ∈ vs
  · rw [if_pos hj, if_pos hj]
    split
    · subst i
      split
      · rw [List.getElem?_eq_getElem (by assumption)]; rfl
      · rw [List.getElem?_eq_none (by omega)]
    · rfl
  · rw [if_neg hj, if_neg hj, if_neg (show ¬ i = j from fun z => hj (z ▸ h))]
theorem wipe_wipe {σ : St} {vs : List Nat} : wipe (wipe σ vs) vs = wipe σ vs := by
  refine List.ext_getElem? fun j => ?_
  rw [wipe_get]
  by_cases hj : j ∈ vs
  · rw [if_pos hj, wipe_get, if_pos hj]
    cases σ[j]? <;> rfl
  · rw [if_neg hj]
def gN (i : Nat) : SG := fun d τ => some (τ.set i (some d))
theorem eg_name {vs : List Nat} (i : Nat) {x : Str} (hN : X.N.Nodup) (hv : i ∈ vs := by decide) (hi : X.N[i]? = some x := by rfl) (hx : Loc X.env.scope x := by first | exact Or.inl rfl | exact Or.inr rfl) (hf : X.fn x = true ∨ X.env.scope.names.lookup x = some .local := by first | exact .inl rfl | exact .inr rfl | assumption) :
    EvG X vs (.Name x pos) (gN i) := PG.imp (pg_name hN hi hx hf) fun v σ H Q ⟨ρ, τ, st, d, r, en, rd, q⟩ => q _ (en.set rd i) (wipe_set hv)
def gsNil : List D → En → Option En := fun ds τ => match ds with
  | [] => some τ
  | _ => none
def gsCons (g : SG) (gs : List D → En → Option En) : List D → En → Option En := fun ds τ => match ds with
  | d :: r => (g d τ).bind (gs r)
  | [] => none
theorem egs_nil {vs : List Nat} : EvGs X vs [] gsNil := PGs.imp pgs_nil fun us σ H Q ⟨ρ, τ, st, ds, r, en, rd, q⟩ => by
  cases ds with
  | nil => exact ⟨rd.nil_eq, q σ en rfl⟩
  | cons d r => exact q.elim
theorem egs_cons {vs : List Nat} {g : SG} {gs : List D → En → Option En} (h : EvG X vs e g) (h2 : EvGs X vs es gs) (hs : (assignEach (e :: es) X.env).map (·.2) = assign e X.env :: (assignEach es X.env).map (·.2) := by rfl) : EvGs X vs (e :: es) (gsCons g gs) :=
  PGs.imp (pgs_cons h h2 hs) fun us σ H Q ⟨ρ, τ, st, ds, r, en, rd, q⟩ => by
    cases ds with
    | nil => exact q.elim
    | cons d ds =>
      obtain ⟨v, w, rfl, r1, r2⟩ := rd.cases
      refine ⟨v, w, rfl, ρ, τ, st, d, r, en, r1, ?_⟩
      simp only [gsCons] at q
      cases e1 : g d τ with
      | none => rw [e1] at q; exact q
      | some τ1 =>
        rw [e1] at q
        simp only [Option.bind_some] at q
        intro σ1 en1 w1
        refine ⟨ρ, τ1, st, ds, r, en1, r2, ?_⟩
        cases e2 : gs ds τ1 with
        | none => rw [e2] at q; exact q
        | some τ2 =>
          rw [e2] at q
          exact fun σ2 en2 w2 => q σ2 en2 (w2.trans w1)
def gT (gs : List D → En → Option En) : SG := fun d τ => match d with
  | .tup ds => gs ds τ
  | _ => none
def LenG (gs : List D → En → Option En) (k : Nat) : Prop := ∀ ds τ τ', gs ds τ = some τ' → ds.length = k
theorem lenG_nil : LenG gsNil 0 := fun ds τ τ' h => by cases ds with
  | nil => rfl
  | cons d r => exact absurd h (by simp [gsNil])
theorem lenG_cons {g : SG} {gs : List D → En → Option En} {k : Nat} (h : LenG gs k) : LenG (gsCons g gs) (k + 1) := fun ds τ τ' q => by
  cases ds with
  | nil => exact absurd q (by simp [gsCons])
  | cons d r =>
    simp only [gsCons] at q
    cases e : g d τ with
    | none => rw [e] at q; exact absurd q (by simp)
    | some τ1 => rw [e] at q; simp only [Option.bind_some] at q; simp [h _ _ _ q]
theorem eg_tup {vs : List Nat} {k n : Nat} {gs : List D → En → Option En} (hc : X.calm = true) (h : EvGs X vs es gs) (hl : LenG gs n) (hn : (assignEach es X.env).length = n := by rfl) (hst : (assignEach es X.env).findIdx? (·.1) = none := by rfl) :
    EvG X vs (.Tuple es k pos) (gT gs) := PG.imp (pg_tup hc h hn hst) fun v σ H Q ⟨ρ, τ, st, d, r, en, rd, q⟩ => by
  cases d with
  | tup ds =>
    simp only [RelD] at rd
    obtain ⟨a, us, rfl, hs, rs⟩ := rd
    refine ⟨a, us, rfl, SqT.of hs, ?_, ρ, τ, st, ds, r, en, rs, q⟩
    rw [rs.len]
    simp only [gT] at q
    cases e : gs ds τ with
    | none => rw [e] at q; exact q.elim
    | some τ' => exact hl _ _ _ e
  | _ => exact q.elim
/-- x, y = e -/
def sAsg (g : SG) (m : SE) : SS := fun τ st => (m τ st).go τ fun d st1 => match g d τ with
  | some τ' => .nx τ' st1
  | none => .no
theorem es_asg {tg : Expr} {vs : List Nat} {g : SG} (he : EvE X W e m) (hg : EvG X vs tg g) (hs : swapsWithSole [tg] e pos.line X.env = pure false := by rfl) (hw : swappedStores [tg] e X.env = pure none := by rfl)
    (h1 : (assignEach [tg] X.env).map (·.2) = [assign tg X.env] := by rfl) : EvS X W (.Assign [tg] e pos) (sAsg g m) :=
  PS.imp (ps_asg he hg hs hw h1) fun D σ H ⟨ρ, τ, st, r0, en, o⟩ => tM.goS r0 en o fun d st1 ρ1 H1 v e1 r1 en1 q o1 => by
    refine ⟨ρ1, τ, st1, d, r1, en1, q, ?_⟩
    cases e2 : g d τ with
    | none => rw [e2] at o1; exact o1
    | some τ' => rw [e2] at o1; exact fun σ' en' _ => o1.next r1 en'
/-- x, y = a, b -/
def sPar (i j : Nat) (ma mb : SE) : SS := fun τ st => (ma τ st).go τ fun d st1 => (mb τ st1).go τ fun d2 st2 => .nx ((τ.set i (some d)).set j (some d2)) st2
theorem es_par (i j : Nat) {x y : Str} {px py pt : Pos} {kt k2 pt2} (hc : X.calm = true) (hN : X.N.Nodup) (ha : EvE X W a ma) (hb : EvE X W b mb) (hi : X.N[i]? = some x := by rfl) (hj : X.N[j]? = some y := by rfl) (hij : i ≠ j := by decide)
    (hx : X.env.scope.names.lookup x = some .local := by rfl) (hy : X.env.scope.names.lookup y = some .local := by rfl)
    (hw : swappedStores [.Tuple [.Name x px, .Name y py] kt pt] (.Tuple [a, b] k2 pt2) X.env = pure (some [x, y]) := by rfl)
    (hs : swapsWithSole [.Tuple [.Name x px, .Name y py] kt pt] (.Tuple [a, b] k2 pt2) pos.line X.env = pure false := by rfl)
    (s1 : starEach (a :: [b]) X.env = (false, eval a X.env) :: starEach [b] X.env := by rfl) (s2 : starEach (b :: []) X.env = (false, eval b X.env) :: starEach [] X.env := by rfl) :
    EvS X W (.Assign [.Tuple [.Name x px, .Name y py] kt pt] (.Tuple [a, b] k2 pt2) pos) (sPar i j ma mb) :=
  PS.imp (ps_par hc hN hi hj hij hx hy (pa_cons ha (pa_cons hb pa_nil s2) s1) hw hs) fun D σ H ⟨ρ, τ, st, r0, en, o⟩ => tM.goS r0 en o fun d st1 ρ1 H1 v e1 r1 en1 q o1 =>
    tM.goS r1 en1 o1 fun d2 st2 ρ2 H2 v2 e2 r2 en2 q2 o2 => ⟨v, v2, rfl, o2.next r2 ((en2.set (q.mono e2 r1) i).set q2 j)⟩
def sPar3 (i j l : Nat) (ma mb mc : SE) : SS := fun τ st => (ma τ st).go τ fun d st1 => (mb τ st1).go τ fun d2 st2 => (mc τ st2).go τ fun d3 st3 => .nx (((τ.set i (some d)).set j (some d2)).set l (some d3)) st3
theorem es_par3 (i j l : Nat) {x y z : Str} {px py pz pt : Pos} {kt k2 pt2} (hc : X.calm = true) (hN : X.N.Nodup) (ha : EvE X W a ma) (hb : EvE X W b mb) (hcc : EvE X W c mc) (hi : X.N[i]? = some x := by rfl) (hj : X.N[j]? = some y := by rfl) (hl : X.N[l]? = some z := by rfl)
    (hij : i ≠ j := by decide) (hil : i ≠ l := by decide) (hjl : j ≠ l := by decide)
    (hx : X.env.scope.names.lookup x = some .local := by rfl) (hy : X.env.scope.names.lookup y = some .local := by rfl) (hz : X.env.scope.names.lookup z = some .local := by rfl)
    (hw : swappedStores [.Tuple [.Name x px, .Name y py, .Name z pz] kt pt] (.Tuple [a, b, c] k2 pt2) X.env = pure (some [x, y, z]) := by rfl)
    (hs : swapsWithSole [.Tuple [.Name x px, .Name y py, .Name z pz] kt pt] (.Tuple [a, b, c] k2 pt2) pos.line X.env = pure false := by rfl)
    (s1 : starEach (a :: [b, c]) X.env = (false, eval a X.env) :: starEach [b, c] X.env := by rfl) (s2 : starEach (b :: [c]) X.env = (false, eval b X.env) :: starEach [c] X.env := by rfl) (s3 : starEach (c :: []) X.env = (false, eval c X.env) :: starEach [] X.env := by rfl) :
    EvS X W (.Assign [.Tuple [.Name x px, .Name y py, .Name z pz] kt pt] (.Tuple [a, b, c] k2 pt2) pos) (sPar3 i j l ma mb mc) :=
  PS.imp (ps_par3 hc hN hi hj hl hij hil hjl hx hy hz (pa_cons ha (pa_cons hb (pa_cons hcc pa_nil s3) s2) s1) hw hs) fun D σ H ⟨ρ, τ, st, r0, en, o⟩ => tM.goS r0 en o fun d st1 ρ1 H1 v e1 r1 en1 q o1 =>
    tM.goS r1 en1 o1 fun d2 st2 ρ2 H2 v2 e2 r2 en2 q2 o2 => tM.goS r2 en2 o2 fun d3 st3 ρ3 H3 v3 e3 r3 en3 q3 o3 =>
      ⟨v, v2, v3, rfl, o3.next r3 (((en3.set ((q.mono e2 r1).mono e3 r2) i).set (q2.mono e3 r2) j).set q3 l)⟩

/-! ### while -/
def whileN (t : SB) (b : SS) : Nat → SS
  | 0 => fun _ _ => .no
  | k + 1 => fun τ st => (t τ st).go τ fun c st1 => if c = true then (b τ st1).loop (whileN t b k) else .nx τ st1
theorem whileN_succ {t : SB} {b : SS} {r : Rt} (hr : r ≠ .no) : ∀ {k : Nat} {τ : En} {st : Store}, whileN t b k τ st = r → whileN t b (k + 1) τ st = r
  | 0, τ, st, h => absurd h (fun z => hr z.symm)
  | k + 1, τ, st, h => by
    have h' : ((t τ st).go τ fun c st1 => if c = true then (b τ st1).loop (whileN t b k) else .nx τ st1) = r := h
    show ((t τ st).go τ fun c st1 => if c = true then (b τ st1).loop (whileN t b (k + 1)) else .nx τ st1) = r
    cases e : t τ st with
    | no => rw [e] at h'; exact h'
    | er x s => rw [e] at h'; exact h'
    | ok c st1 =>
      rw [e] at h'
      simp only [Rs.go_ok] at h' ⊢
      cases c with
      | false => exact h'
      | true =>
        simp only [if_true] at h' ⊢
        cases e2 : b τ st1 with
        | nx a s => rw [e2] at h'; exact whileN_succ hr (k := k) h'
        | ct a s => rw [e2] at h'; exact whileN_succ hr (k := k) h'
        | no => rw [e2] at h'; exact h'
        | bk a s => rw [e2] at h'; exact h'
        | rt a s => rw [e2] at h'; exact h'
        | er x a s => rw [e2] at h'; exact h'
theorem whileN_le {t : SB} {b : SS} {r : Rt} (hr : r ≠ .no) {k j : Nat} (h : k ≤ j) {τ : En} {st : Store} (e : whileN t b k τ st = r) : whileN t b j τ st = r := by
  induction h with
  | refl => exact e
  | step _ ih => exact whileN_succ hr ih
open Classical in
noncomputable def sWhile (t : SB) (b : SS) : SS := fun τ st => if h : ∃ k, whileN t b k τ st ≠ .no then whileN t b h.choose τ st else .no
theorem sWhile_of {t : SB} {b : SS} {r : Rt} {k : Nat} {τ : En} {st : Store} (hr : r ≠ .no) (e : whileN t b k τ st = r) : sWhile t b τ st = r := by
  have h : ∃ k, whileN t b k τ st ≠ .no := ⟨k, by rw [e]; exact hr⟩
  unfold sWhile
  rw [dif_pos h]
  have h1 := h.choose_spec
  by_cases hk : k ≤ h.choose
  · exact whileN_le hr hk e
  · exact ((whileN_le h1 (Nat.le_of_lt (Nat.lt_of_not_le hk)) rfl).symm.trans e)
theorem sWhile_ex {t : SB} {b : SS} {τ : En} {st : Store} (h : sWhile t b τ st ≠ .no) : ∃ k, whileN t b k τ st = sWhile t b τ st := by
  unfold sWhile at h ⊢
  split
  · exact ⟨_, rfl⟩
  · rename_i hn; rw [dif_neg hn] at h; exact absurd rfl h
/-- one turn of a while -/
theorem sWhile_eq (t : SB) (b : SS) (τ : En) (st : Store) : sWhile t b τ st = (t τ st).go τ fun c st1 => if c = true then (b τ st1).loop (sWhile t b) else .nx τ st1 := by
  have key : ∀ {τ' : En} {st' : Store}, sWhile t b τ' st' ≠ .no → ∃ k, whileN t b k τ' st' = sWhile t b τ' st' := sWhile_ex
  by_cases hr : ((t τ st).go τ fun c st1 => if c = true then (b τ st1).loop (sWhile t b) else .nx τ st1) = .no
  · rw [hr]
    cases q : sWhile t b τ st with
    | no => rfl
    | _ =>
      exfalso
      obtain ⟨k, hk⟩ := key (τ' := τ) (st' := st) (by rw [q]; intro z; cases z)
      rw [q] at hk
      cases k with
      | zero => cases hk
      | succ k =>
        have hk' : ((t τ st).go τ fun c st1 => if c = true then (b τ st1).loop (whileN t b k) else .nx τ st1) = _ := hk
        cases e : t τ st with
        | no => rw [e] at hk'; cases hk'
        | er x s => rw [e] at hr; cases hr
        | ok c st1 =>
          rw [e] at hk' hr
          simp only [Rs.go_ok] at hk' hr
          cases c with
          | false => simp at hr
          | true =>
            simp only [if_true] at hk' hr
            cases e2 : b τ st1 with
            | nx a s => rw [e2] at hk' hr; simp only [Rt.loop_nx] at hk' hr; rw [sWhile_of (by intro z; cases z) hk'] at hr; cases hr
            | ct a s => rw [e2] at hk' hr; simp only [Rt.loop_ct] at hk' hr; rw [sWhile_of (by intro z; cases z) hk'] at hr; cases hr
            | no => rw [e2] at hk'; cases hk'
            | bk a s => rw [e2] at hr; cases hr
            | rt a s => rw [e2] at hr; cases hr
            | er x a s => rw [e2] at hr; cases hr
  · cases e : t τ st with
    | no => rw [e] at hr; exact absurd rfl hr
    | er x s => exact sWhile_of (k := 1) (by simp) (by simp [whileN, e])
    | ok c st1 =>
      rw [e] at hr
      simp only [Rs.go_ok] at hr ⊢
      cases c with
      | false => exact sWhile_of (k := 1) (by simp) (by simp [whileN, e])
      | true =>
        simp only [if_true] at hr ⊢
        cases e2 : b τ st1 with
        | nx a s =>
          rw [e2] at hr
          obtain ⟨k, hk⟩ := key hr
          exact sWhile_of (k := k + 1) hr (by simp only [whileN, e, Rs.go_ok, if_true, e2]; exact hk)
        | ct a s =>
          rw [e2] at hr
          obtain ⟨k, hk⟩ := key hr
          exact sWhile_of (k := k + 1) hr (by simp only [whileN, e, Rs.go_ok, if_true, e2]; exact hk)
        | no => rw [e2] at hr; exact absurd rfl hr
        | bk a s => exact sWhile_of (k := 1) (by simp) (by simp [whileN, e, e2])
        | rt a s => exact sWhile_of (k := 1) (by simp) (by simp [whileN, e, e2])
        | er x a s => exact sWhile_of (k := 1) (by simp) (by simp [whileN, e, e2])
theorem es_while (hp : PassesOwn (model X.prog X.w) X.A X.env X.xe) (hc : EvB X W c t) (hb : EvSs X W ss u) : EvS X W (.While c ss [] pos) (sWhile t u) := PS.imp (ps_while hp hc hb) fun D σ H ⟨ρ, τ, st, r0, en, o⟩ => by
  have hn : sWhile t u τ st ≠ .no := fun z => by rw [z] at o; exact o
  obtain ⟨k, hk⟩ := sWhile_ex hn
  rw [← hk] at o
  refine ⟨fun m σ H => ∃ ρ τ st, R X.K ρ st H ∧ EnvR X.K ρ st.length H τ σ ∧ OutS X.K W ρ st.length H D (whileN t u m τ st), ⟨k, ρ, τ, st, r0, en, o⟩, fun m σ H ⟨ρ, τ, st, r0, en, o⟩ => ?_⟩
  cases m with
  | zero => exact o.elim
  | succ m =>
    refine tM.goS (Ra := reB) r0 en o fun c st1 ρ1 H1 c' e1 r1 en1 q o1 => ?_
    cases (show c = c' from q)
    cases c with
    | false => exact o1.next r1 en1
    | true =>
      simp only [if_true] at o1 ⊢
      refine ⟨fun σ H => ∃ ρ τ st, R X.K ρ st H ∧ EnvR X.K ρ st.length H τ σ ∧ OutS X.K W ρ st.length H D (whileN t u m τ st), fun σ' H' h => ⟨m, Nat.lt_succ_self m, h⟩, ρ1, τ, st1, r1, en1, ?_⟩
      cases e2 : u τ st1 with
      | nx a s => rw [e2] at o1; exact fun ρ' H' σ' e' r' en' => ⟨ρ', a, s, r', en', OutS.shift o1 r1 e' r'⟩
      | ct a s => rw [e2] at o1; exact fun ρ' H' σ' e' r' en' => ⟨ρ', a, s, r', en', OutS.shift o1 r1 e' r'⟩
      | no => rw [e2] at o1; exact o1
      | bk a s => rw [e2] at o1; exact o1
      | rt a s => rw [e2] at o1; exact o1
      | er x a s => rw [e2] at o1; exact o1
end
end Fx

set_option Elab.async false
set_option linter.all false
set_option maxRecDepth 100000
set_option maxHeartbeats 4000000
namespace Fx
open PySem L2

/-! ### what is walked -/
def ItR (K : PySem.W.Frag) (ρ : Mp) (st : Store) (H : Hp) (J : It) (ds : List D) : Prop :=
  ∀ (ρ2 : Mp) (st2 : Store) (H2 : Hp), ExtW ρ st.length H ρ2 st2.length H2 → R K ρ2 st2 H2 → ∀ i : Nat,
    (∀ d, ds[i]? = some d → J.go i H2 ∧ ∀ x H3, J.yld i H2 x H3 → Ext ρ2 st2.length H2 ρ2 st2.length H3 ∧ R K ρ2 st2 H3 ∧ RelD K ρ2 st2.length H3 d x) ∧
    (ds.length ≤ i → J.stop i H2)
abbrev reI (K : PySem.W.Frag) : Rl (List D) It := fun _ ρ st H ds J => ItR K ρ st H J ds
instance {K : PySem.W.Frag} : RlOk K (reI K) := ⟨fun _ _ h => h⟩
abbrev EvI (X : Cx) (W : WX) (tg iter : Expr) (m : SA) : Prop := PI X tg iter (tM X.K (reI X.K) W m)
theorem PI.imp {X : Cx} {tg e : Expr} {t t' : TI} (h : PI X tg e t) (hi : ∀ σ H Q, t' σ H Q → t σ H Q) : PI X tg e t' := ⟨fun pins s σ H Q I q => h.run pins s σ H Q I (hi _ _ _ q)⟩

section
variable {K : PySem.W.Frag} {ρ : Mp} {st : Store} {H : Hp} {ds : List D}
theorem itR_list {a : Addr} {vs : List V} (h : LstAt K H ρ st.length a vs) (rv : RelDs K ρ st.length H ds vs) (r : R K ρ st H) : ItR K ρ st H (Itl K a) ds := fun ρ2 st2 H2 e r2 i => by
  have h2 : SqL K H2 a vs := (e.lstAt h).sq
  refine ⟨fun d hd => ?_, fun hl => ⟨vs, h2, by rw [rv.len]; exact hl⟩⟩
  obtain ⟨v, hv, rd⟩ := rv.get hd
  refine ⟨⟨vs, v, h2, hv⟩, fun x H3 ⟨e3, q⟩ => ?_⟩
  subst e3
  have q' := q vs h2
  rw [hv] at q'; cases q'
  exact ⟨.refl, r2, RelD.monoW e r _ rd⟩
theorem itR_tup {a : Addr} {vs : List V} (h : SqT K H a vs) (rv : RelDs K ρ st.length H ds vs) (r : R K ρ st H) : ItR K ρ st H (Itt K a) ds := fun ρ2 st2 H2 e r2 i => by
  have h2 : SqT K H2 a vs := e.sqT r h
  refine ⟨fun d hd => ?_, fun hl => ⟨vs, h2, by rw [rv.len]; exact hl⟩⟩
  obtain ⟨v, hv, rd⟩ := rv.get hd
  refine ⟨⟨vs, v, h2, hv⟩, fun x H3 ⟨e3, q⟩ => ?_⟩
  subst e3
  have q' := q vs h2
  rw [hv] at q'; cases q'
  exact ⟨.refl, r2, RelD.monoW e r _ rd⟩
/-- the ints lo, lo + 1, .. -/
def rangeD (lo hi : Int) : List D := (List.range (hi - lo).toNat).map fun i => .int (lo + (i : Nat))
theorem itR_range {lo hi : Int} : ItR K ρ st H (Itr lo (hi - lo).toNat) (rangeD lo hi) := fun ρ2 st2 H2 e r2 i => by
  refine ⟨fun d hd => ?_, fun hl => show (hi - lo).toNat ≤ i by simpa [rangeD] using hl⟩
  unfold rangeD at hd
  rw [List.getElem?_map] at hd
  cases q : (List.range (hi - lo).toNat)[i]? with
  | none => rw [q] at hd; cases hd
  | some j =>
    rw [q] at hd
    obtain ⟨h1, h2⟩ := List.getElem?_eq_some_iff.mp q
    rw [List.getElem_range] at h2
    subst h2
    cases hd
    refine ⟨show i < (hi - lo).toNat by simpa using h1, fun x H3 ⟨e3, ex⟩ => ?_⟩
    subst e3; subst ex
    exact ⟨.refl, r2, by simp [RelD]⟩
end

section
variable {X : Cx} {W : WX} {e a b c tg iter : Expr} {es ifs : List Expr} {s : Stmt} {ss bs : List Stmt} {m ma mb mc : SE} {ms mi : SA} {t : SB} {u v w : SS} {pos : Pos}
/-- the value's items: a tuple, or a list that is only read -/
def itemsOf (r : Rs D) : Rs (List D) := r.bind fun d st => match d with
  | .tup ds => .ok ds st
  | .lst ds => .ok ds st
  | _ => .no
def mItems (m : SE) : SA := fun σ st => itemsOf (m σ st)
theorem ei_seq (h : EvE X W e m) : EvI X W tg e (mItems m) := by
  refine ⟨fun pins s σ H Rr I q => ?_⟩
  obtain ⟨ρ, τ, st, r0, en, o⟩ := q
  refine thn (h.run pins s σ H (fun x H1 => ∃ a, x = .ref a ∧ (((∃ vs, SqL X.K H1 a vs ∧ ∃ ρ1 st1 ds, R X.K ρ1 st1 H1 ∧ LstAt X.K H1 ρ1 st1.length a vs ∧ RelDs X.K ρ1 st1.length H1 ds vs ∧ Out X.K (reI X.K) W σ ρ1 st1.length H1 Rr (.ok ds st1))) ∨ (∃ vs, SqT X.K H1 a vs ∧ ∃ ρ1 st1 ds, R X.K ρ1 st1 H1 ∧ RelDs X.K ρ1 st1.length H1 ds vs ∧ Out X.K (reI X.K) W σ ρ1 st1.length H1 Rr (.ok ds st1)))) I ?_) fun v s1 ⟨x, H1, I1, r1, q1⟩ => ?_
  · refine tM.bind r0 en o fun d st1 ρ1 H1 v e1 r1 en1 q o1 => ?_
    cases d with
    | tup ds =>
      simp only [RelD] at q
      obtain ⟨a, vs, rfl, hs, rv⟩ := q
      exact ⟨a, rfl, .inr ⟨vs, SqT.of hs, ρ1, st1, ds, r1, rv, o1⟩⟩
    | lst ds =>
      simp only [RelD] at q
      obtain ⟨a, vs, rfl, hs, rv⟩ := q
      exact ⟨a, rfl, .inl ⟨vs, hs.sq, ρ1, st1, ds, r1, hs, rv, o1⟩⟩
    | _ => exact o1.elim
  · obtain ⟨a, e, q⟩ := q1
    subst e
    cases r1
    rcases q with ⟨vs, hq, ρ1, st1, ds, rr, hl, rv, o1⟩ | ⟨vs, hq, ρ1, st1, ds, rr, rv, o1⟩
    · obtain ⟨its, rw', p, hz⟩ := I1.list hq
      refine wpAny_pyIter_list p.isList ?_
      refine ⟨s1.heap.objs.size, [s1.heap.objs.size], _, Itl X.K a, H1, rfl, I1.kept (t' := s1.toks) fun b o e => Heap.get?_push_of_some _ e, turn_list a _, ⟨_, Heap.get?_push_size _ rfl, rfl, rfl⟩, fun b hb => ?_, o1 ρ1 H1 _ .refl rr ?_⟩
      · have e : b = s1.heap.objs.size := by simpa using hb
        subst e
        exact I1.fpOk (Nat.le_refl _) (I1.hok.fresh (Nat.le_refl _))
      · exact itR_list hl rv rr
    · obtain ⟨its, rw', p, hz⟩ := I1.tuple hq
      refine wpAny_pyIter_tuple (show s1.heap.IsTuple a its.toArray from p) ?_
      refine ⟨s1.heap.objs.size, [s1.heap.objs.size], _, Itt X.K a, H1, rfl, I1.kept (t' := s1.toks) fun b o e => Heap.get?_push_of_some _ e, turn_tuple a _, ⟨_, Heap.get?_push_size _ rfl, rfl, rfl⟩, fun b hb => ?_, o1 ρ1 H1 _ .refl rr (itR_tup hq rv rr)⟩
      have e : b = s1.heap.objs.size := by simpa using hb
      subst e
      exact I1.fpOk (Nat.le_refl _) (I1.hok.fresh (Nat.le_refl _))
/-- range(n), range(a, b) -/
noncomputable def rng1 (r : Rs (List D)) : Rs (List D) := r.bind fun ds st => match ds with
  | [.int j] => if j < 2 ^ 62 then .ok (rangeD 0 j) st else .no
  | _ => .no
noncomputable def rng2 (r : Rs (List D)) : Rs (List D) := r.bind fun ds st => match ds with
  | [.int i, .int j] => if w62 i = true ∧ w62 j = true then .ok (rangeD i j) st else .no
  | _ => .no
noncomputable def mRng1 (m : SE) : SA := fun σ st => (m σ st).bind fun d st1 => match d with
  | .int j => if w62 j = true then .ok (rangeD 0 j) st1 else .no
  | _ => .no
noncomputable def mRng2 (ma mb : SE) : SA := fun σ st => (ma σ st).bind fun d st1 => (mb σ st1).bind fun d2 st2 => match d, d2 with
  | .int i, .int j => if w62 i = true ∧ w62 j = true then .ok (rangeD i j) st2 else .no
  | _, _ => .no
theorem ei_range1 {p pos : Pos} (hm : X.mg "range" = none) (ha : EvE X W a ma) (hg : Gl X "range" := by rfl) (hs1 : starEach (a :: []) X.env = (false, eval a X.env) :: starEach [] X.env := by rfl) (hs : starEach [a] X.env = [(false, eval a X.env)] := by rfl) :
    EvI X W tg (.Call (.Name "range" p) [a] [] pos) (mRng1 ma) := PI.imp (pi_range1 hg hm (pa_cons ha pa_nil hs1) hs) fun σ H Rr ⟨ρ, τ, st, r0, en, o⟩ =>
  tM.bind r0 en o fun d st1 ρ1 H1 v e1 r1 en1 q o1 => by
    cases d with
    | int j =>
      simp only [RelD] at q
      subst q
      simp only at o1
      split at o1
      · rename_i hj
        refine ⟨j, rfl, (w62_iff.mp hj).1, (w62_iff.mp hj).2, o1.here r1 ?_⟩
        have e : (j - 0).toNat = j.toNat := by omega
        have := itR_range (K := X.K) (ρ := ρ1) (st := st1) (H := H1) (lo := 0) (hi := j)
        rw [e] at this; exact this
      · exact o1.elim
    | _ => exact o1.elim
theorem ei_range2 {p pos : Pos} (hm : X.mg "range" = none) (ha : EvE X W a ma) (hb : EvE X W b mb) (hg : Gl X "range" := by rfl) (hs1 : starEach (b :: []) X.env = (false, eval b X.env) :: starEach [] X.env := by rfl) (hs0 : starEach (a :: [b]) X.env = (false, eval a X.env) :: starEach [b] X.env := by rfl)
    (hs : starEach [a, b] X.env = [(false, eval a X.env), (false, eval b X.env)] := by rfl) (hs2 : starEach [b] X.env = [(false, eval b X.env)] := by rfl) :
    EvI X W tg (.Call (.Name "range" p) [a, b] [] pos) (mRng2 ma mb) := PI.imp (pi_range2 hg hm (pa_cons ha (pa_cons hb pa_nil hs1) hs0) hs hs2) fun σ H Rr ⟨ρ, τ, st, r0, en, o⟩ =>
  tM.bind r0 en o fun d st1 ρ1 H1 v e1 r1 en1 q o1 => tM.bind r1 en1 o1 fun d2 st2 ρ2 H2 v2 e2 r2 en2 q2 o2 => by
    cases d with
    | int i =>
      cases d2 with
      | int j =>
        simp only [RelD] at q q2
        subst q; subst q2
        simp only at o2
        split at o2
        · rename_i hj
          exact ⟨i, j, rfl, ⟨(w62_iff.mp hj.1).1, (w62_iff.mp hj.1).2, (w62_iff.mp hj.2).1, (w62_iff.mp hj.2).2⟩, o2.here r2 itR_range⟩
        · exact o2.elim
      | _ => exact o2.elim
    | _ => exact o2.elim

/-! ### for -/
def forS (g : SG) (b : SS) : List D → SS
  | [], τ, st => .nx τ st
  | d :: ds, τ, st => match g d τ with
    | none => .no
    | some τ1 => (b τ1 st).loop (forS g b ds)
def sFor (mi : SA) (g : SG) (b : SS) : SS := fun τ st => (mi τ st).go τ fun ds st1 => forS g b ds τ st1
theorem es_for {vs : List Nat} {g : SG} (hp : PassesOwn (model X.prog X.w) X.A X.env X.xe) (hc : X.calm = true) (hi : EvI X W tg iter mi) (hg : EvG X vs tg g) (hb : EvSs X W ss u)
    (hs : ∀ x, foldedSetIterable iter X.env x = pure x := by intro _; rfl) : EvS X W (.For tg iter ss [] pos) (sFor mi g u) := PS.imp (ps_for hp hc hi hg hb hs) fun D σ H ⟨ρ, τ, st, r0, en, o⟩ =>
  tM.goS r0 en o fun ds st1 ρ1 H1 J e1 r1 en1 q o1 => by
    refine ⟨fun i m σ H => m = ds.length - i ∧ i ≤ ds.length ∧ ∃ ρ τ st, Ext ρ1 st1.length H1 ρ st.length H ∧ R X.K ρ st H ∧ EnvR X.K ρ st.length H τ σ ∧ OutS X.K W ρ st.length H D (forS g u (ds.drop i) τ st),
      ⟨_, rfl, Nat.zero_le _, ρ1, τ, st1, .refl, r1, en1, by rw [List.drop_zero]; exact o1⟩, fun i m σ H ⟨hm, hi, ρ, τ, st, ex, r, en, o⟩ => ?_⟩
    obtain ⟨go, stop⟩ := q ρ st H ex.w r i
    by_cases hl : i < ds.length
    · have hd : ds[i]? = some ds[i] := List.getElem?_eq_getElem hl
      obtain ⟨g1, g2⟩ := go _ hd
      refine .inr ⟨g1, fun σ H => (ds.length - (i + 1)) = ds.length - (i + 1) ∧ i + 1 ≤ ds.length ∧ ∃ ρ τ st, Ext ρ1 st1.length H1 ρ st.length H ∧ R X.K ρ st H ∧ EnvR X.K ρ st.length H τ σ ∧ OutS X.K W ρ st.length H D (forS g u (ds.drop (i + 1)) τ st),
        fun σ' H' h => ⟨ds.length - (i + 1), by omega, h⟩, fun x H3 hy => ?_⟩
      obtain ⟨e3, r3, rd⟩ := g2 x H3 hy
      rw [List.drop_eq_getElem_cons hl] at o
      simp only [forS] at o
      refine ⟨ρ, τ, st, _, r3, en.mono e3 r, rd, ?_⟩
      cases e2 : g ds[i] τ with
      | none => rw [e2] at o; exact o
      | some τ1 =>
        rw [e2] at o
        simp only at o
        intro σ1 en1' _
        refine ⟨ρ, τ1, st, r3, en1', ?_⟩
        have o' := OutS.shift o r e3 r3
        have ex3 := ex.trans r1 r e3
        cases e4 : u τ1 st with
        | nx a s => rw [e4] at o'; exact fun ρ' H' σ' e' r' en' => ⟨rfl, hl, ρ', a, s, ex3.trans r1 r3 e', r', en', OutS.shift o' r3 e' r'⟩
        | ct a s => rw [e4] at o'; exact fun ρ' H' σ' e' r' en' => ⟨rfl, hl, ρ', a, s, ex3.trans r1 r3 e', r', en', OutS.shift o' r3 e' r'⟩
        | no => rw [e4] at o'; exact o'
        | bk a s => rw [e4] at o'; exact o'
        | rt a s => rw [e4] at o'; exact o'
        | er x a s => rw [e4] at o'; exact o'
    · refine .inl ⟨stop (by omega), ?_⟩
      rw [List.drop_eq_nil_of_le (by omega)] at o
      exact o.next r en

/-! ### list comprehensions -/
def compS (g : SG) (t : SB) (m : SE) (vs : List Nat) : List D → En → Store → List D → Rs (List D)
  | [], _, st, acc => .ok acc st
  | d :: ds, τ, st, acc => match g d (wipeE τ vs) with
    | none => .no
    | some τ1 => match t τ1 st with
      | .ok true st1 => (match m τ1 st1 with
        | .ok y st2 => if acc.length < sizeLine then compS g t m vs ds τ st2 (acc ++ [y]) else .no
        | _ => .no)
      | .ok false st1 => compS g t m vs ds τ st1 acc
      | _ => .no
def mComp (mi : SA) (g : SG) (t : SB) (m : SE) (vs : List Nat) : SA := fun τ st => (mi τ st).bind fun ds st1 => compS g t m vs ds τ st1 []
def mYes : SB := fun _ st => .ok true st
abbrev W0 : WX := fun _ _ _ _ => False
abbrev EvT (X : Cx) (W : WX) (ifs : List Expr) (t : SB) : Prop := PTs X ifs (tM X.K reB W t)
theorem PTs.imp {X : Cx} {e : List Expr} {t t' : TT} (h : PTs X e t) (hi : ∀ σ H Q, t' σ H Q → t σ H Q) : PTs X e t' := ⟨fun pins s σ H Q I q => h.run pins s σ H Q I (hi _ _ _ q)⟩
theorem eif_nil : EvT X W [] mYes := PTs.imp pts_nil fun σ H Q ⟨ρ, τ, st, r, en, o⟩ => o.here r rfl
theorem eif_one (h : EvB X W c t) : EvT X W [c] t := pts_one h
section
variable {K : PySem.W.Frag} {ρ : Mp} {n : Nat} {H : Hp} {p : Addr}
mutual
theorem RelD.hw {u : HO} {us : List V} (hp : H p = some (.lst us)) : ∀ (d : D) {v : V}, RelD K (ρ.hide p) n H d v → RelD K (ρ.hide p) n (upd H p u) d v
  | .non, v, h => by simpa only [RelD] using h
  | .bl b, v, h => by simpa only [RelD] using h
  | .int b, v, h => by simpa only [RelD] using h
  | .str b, v, h => by simpa only [RelD] using h
  | .ty b, v, h => by simpa only [RelD] using h
  | .fn b, v, h => by simpa only [RelD] using h
  | .tup xs, v, h => by
    simp only [RelD] at h ⊢
    obtain ⟨a, vs, rfl, s, q⟩ := h
    exact ⟨a, vs, rfl, by rw [upd_ne (ne_of s hp (by intro z; cases z))]; exact s, RelDs.hw hp xs q⟩
  | .lst xs, v, h => by
    simp only [RelD] at h ⊢
    obtain ⟨a, vs, rfl, s, q⟩ := h
    refine ⟨a, vs, rfl, ?_, RelDs.hw hp xs q⟩
    rcases s with ⟨h, ni, nh⟩ | h
    · have ne : a ≠ p := fun z => nh (.inr z)
      rcases h with h | ⟨o, h⟩
      · exact .inl ⟨.inl (by rw [upd_ne ne]; exact h), ni, nh⟩
      · exact .inl ⟨.inr ⟨o, by rw [upd_ne ne]; exact h⟩, ni, nh⟩
    · exact .inr h
  | .loc i, v, h => by simpa only [RelD] using h
theorem RelDs.hw {u : HO} {us : List V} (hp : H p = some (.lst us)) : ∀ (ds : List D) {vs : List V}, RelDs K (ρ.hide p) n H ds vs → RelDs K (ρ.hide p) n (upd H p u) ds vs
  | [], vs, h => by simpa only [RelDs] using h
  | d :: ds, vs, h => by
    simp only [RelDs] at h ⊢
    obtain ⟨v, w, rfl, h1, h2⟩ := h
    exact ⟨v, w, rfl, RelD.hw hp d h1, RelDs.hw hp ds h2⟩
end
theorem R.hw {st : Store} {u : HO} {us : List V} (r : R K (ρ.hide p) st H) (hp : H p = some (.lst us)) (m : isMut u = true) : R K (ρ.hide p) st (upd H p u) := by
  refine ⟨fun i o h => ?_, r.inj, fun a h => ?_, r.sep⟩
  · have q := r.obj i o h
    have hl : i < st.length := (List.getElem?_eq_some_iff.mp h).1
    have ne : (ρ.hide p).at' i ≠ p := fun z => r.sep i hl (.inr z)
    have k : ∀ w, H ((ρ.hide p).at' i) = some w → upd H p u ((ρ.hide p).at' i) = some w := fun w hw => by rw [upd_ne ne]; exact hw
    revert q
    cases o with
    | lst ds => rintro ⟨vs, h, q⟩; exact ⟨vs, k _ h, RelDs.hw hp ds q⟩
    | dk ds => rintro ⟨vs, h, q⟩; exact ⟨vs, k _ h, Paired.monoP q fun p' q z => ⟨z.1, RelD.hw hp _ z.2⟩⟩
    | dt ds => rintro ⟨vs, h, q⟩; exact ⟨vs, k _ h, Paired.monoP q fun p' q z => ⟨z.1, RelD.hw hp _ z.2⟩⟩
  · by_cases e : a = p
    · subst e; exact ⟨u, upd_same, m⟩
    · obtain ⟨w, hw, mw⟩ := r.hid a h
      exact ⟨w, by rw [upd_ne e]; exact hw, mw⟩
theorem EnvR.hw {u : HO} {us : List V} {τ : En} {σ : St} (h : EnvR K (ρ.hide p) n H τ σ) (hp : H p = some (.lst us)) : EnvR K (ρ.hide p) n (upd H p u) τ σ :=
  ⟨h.1, fun i d q => let ⟨v, a, b⟩ := h.2 i d q; ⟨v, a, b.hw hp⟩⟩
theorem EnvR.hideN {u : HO} {τ : En} {σ : St} (h : EnvR K ρ n H τ σ) (hp : H p = none) : EnvR K (ρ.hide p) n (upd H p u) τ σ :=
  ⟨h.1, fun i d q => let ⟨v, a, b⟩ := h.2 i d q; ⟨v, a, b.hide hp⟩⟩
theorem _root_.Fx.Ext.hideW {ρ' : Mp} {n' : Nat} {H' : Hp} (e : Ext ρ n H ρ' n' H') (hp : H p = none) : ExtW ρ n H (ρ'.hide p) n' H' :=
  ⟨e.le, e.old, e.new, e.keep, fun a h => h.elim (fun z => .inl (by rw [← e.hid]; exact z)) fun z => .inr (z ▸ hp)⟩
theorem _root_.Fx.Ext.upd_new {ρ' : Mp} {n' : Nat} {H' : Hp} {u : HO} (e : Ext ρ n H ρ' n' H') (hp : H p = none) : Ext ρ n H ρ' n' (upd H' p u) :=
  ⟨e.le, e.old, e.new, fun a o h q => by rw [upd_ne (ne_of_none h hp)]; exact e.keep a o h q, e.hid⟩
/-- a map that hides what ρ.hide p hides is some map that hides p -/
theorem unhide {ρ' : Mp} (h : ρ'.hid = (ρ.hide p).hid) : ρ' = (Mp.mk ρ'.at' ρ.hid).hide p := by
  cases ρ' with
  | mk f g => cases (show g = (ρ.hide p).hid from h); rfl
end
theorem tM.lc {g : SG} {vs : List Nat} {σ : St} {H : Hp} {Q : VK} (h : tM X.K (reN X.K) W (mComp mi g t m vs) σ H Q) : tLc (tM X.K (reI X.K) W mi) (tG X.K vs g) (tM X.K reB W0 t) (tM X.K (reD X.K) W0 m) vs σ H Q := by
  obtain ⟨ρ, τ, st, r0, en, o⟩ := h
  -- the iterable; the start's heap is kept
  refine tM.bind (Ra := reI X.K) r0 en (show Out X.K (reN X.K) W σ ρ st.length H (fun v H' => Q v H') _ from o) fun ds st1 ρ1 H1 J e1 r1 en1 q o1 => ?_
  intro p hp
  have hpH : ∀ {x : Addr}, H1 x = none → H x = none := fun z => e1.none_of r1 z
  refine ⟨fun i k H' => k = ds.length - i ∧ i ≤ ds.length ∧ ∃ ρ' st' acc us, ρ'.hid = ρ1.hid ∧ Ext ρ1 st1.length H1 ρ' st'.length H' ∧ R X.K (ρ'.hide p) st' H' ∧ EnvR X.K (ρ'.hide p) st'.length H' τ σ ∧ H' p = some (.lst us) ∧
      RelDs X.K (ρ'.hide p) st'.length H' acc us ∧ Out X.K (reN X.K) W σ ρ1 st1.length H1 Q (compS g t m vs (ds.drop i) τ st' acc), ⟨_, rfl, Nat.zero_le _, ρ1, st1, [], [], rfl, r1.push_ext hp, r1.hide hp rfl, en1.hideN hp, upd_same, .nil, by rw [List.drop_zero]; exact o1⟩, fun i k H' ⟨hk, hi, ρ', st', acc, us, hh, ex, rr, en', hpu, ra, oo⟩ => ?_⟩
  have rs := R.show' rr
  obtain ⟨go, stop⟩ := q (ρ'.hide p) st' H' (ex.hideW hp) rr i
  by_cases hl : i < ds.length
  · have hd : ds[i]? = some ds[i] := List.getElem?_eq_getElem hl
    obtain ⟨g1, g2⟩ := go _ hd
    rw [List.drop_eq_getElem_cons hl] at oo
    simp only [compS] at oo
    refine .inr ⟨g1, fun H' => ∃ ρ' st' acc us, ρ'.hid = ρ1.hid ∧ Ext ρ1 st1.length H1 ρ' st'.length H' ∧ R X.K (ρ'.hide p) st' H' ∧ EnvR X.K (ρ'.hide p) st'.length H' τ σ ∧ H' p = some (.lst us) ∧
      RelDs X.K (ρ'.hide p) st'.length H' acc us ∧ Out X.K (reN X.K) W σ ρ1 st1.length H1 Q (compS g t m vs (ds.drop (i + 1)) τ st' acc), fun H2 h => ⟨ds.length - (i + 1), by omega, rfl, hl, h⟩, fun x H3 hy => ?_⟩
    obtain ⟨e3, r3, rd⟩ := g2 x H3 hy
    have en3 := (en'.mono e3 rr).wipe vs
    refine ⟨ρ'.hide p, wipeE τ vs, st', _, r3, en3, rd, ?_⟩
    cases q1 : g ds[i] (wipeE τ vs) with
    | none => rw [q1] at oo; exact oo
    | some τ1 =>
      rw [q1] at oo
      simp only at oo
      refine fun σ1 en4 w1 => ⟨w1.trans wipe_wipe, ρ'.hide p, τ1, st', r3, en4, ?_⟩
      have ra3 := RelDs.mono e3 rr acc ra
      -- the state for the next turn
      have nxt : ∀ {ρ4 : Mp} {st4 : Store} {H4 : Hp}, Ext (ρ'.hide p) st'.length H' ρ4 st4.length H4 → R X.K ρ4 st4 H4 → ∃ ρ5 : Mp, ρ5.hid = ρ1.hid ∧ ρ4 = ρ5.hide p ∧ Ext ρ1 st1.length H1 ρ5 st4.length H4 ∧ H4 p = some (.lst us) := fun {ρ4 st4 H4} e4 r4 => by
        have u := unhide (ρ := ρ') (p := p) e4.hid
        refine ⟨⟨ρ4.at', ρ'.hid⟩, hh, u, ex.trans r1 rs (st' := st') ?_, e4.keep p _ hpu fun i hi z => rr.sep i hi (.inr z)⟩
        exact ⟨e4.le, e4.old, e4.new, e4.keep, rfl⟩
      cases q2 : t τ1 st' with
      | no => rw [q2] at oo; exact oo.elim
      | er x s => rw [q2] at oo; exact oo.elim
      | ok b st2 =>
        rw [q2] at oo
        intro ρ4 H4 b' e4 r4 hb
        cases (show b = b' from hb)
        have e34 := e3.trans rr r3 e4
        obtain ⟨ρ5, h5, u5, ex5, hp5⟩ := nxt e34 r4
        have en5 : EnvR X.K ρ4 st2.length H4 τ σ := (en'.mono e34 rr)
        have ra5 := RelDs.mono e34 rr acc ra
        cases b with
        | false =>
          subst u5
          exact ⟨ρ5, st2, acc, us, h5, ex5, r4, en5, hp5, ra5, oo⟩
        | true =>
          simp only at oo
          refine ⟨ρ4, τ1, st2, r4, en4.mono e4 r3, ?_⟩
          cases q3 : m τ1 st2 with
          | no => rw [q3] at oo; exact oo.elim
          | er x s => rw [q3] at oo; exact oo.elim
          | ok y st6 =>
            rw [q3] at oo
            simp only at oo
            split at oo
            · rename_i hz
              intro ρ6 H6 vy e6 r6 ry
              have e36 := e34.trans rr r4 e6
              obtain ⟨ρ7, h7, u7, ex7, hp7⟩ := nxt e36 r6
              have ra7 := RelDs.mono e36 rr acc ra
              refine ⟨us, hp7, by rw [← ra7.len] at hz; exact hz, ?_⟩
              subst u7
              have ry' : RelD X.K (ρ7.hide p) st6.length H6 y vy := ry
              exact ⟨ρ7, st6, acc ++ [y], us ++ [vy], h7, ex7.upd_new hp, r6.hw hp7 rfl, (en'.mono e36 rr).hw hp7, upd_same, RelDs.hw hp7 _ (ra7.append (.cons ry' .nil)), oo⟩
            · exact oo.elim
  · refine .inl ⟨stop (by omega), ?_⟩
    rw [List.drop_eq_nil_of_le (by omega)] at oo
    exact oo ρ' H' (.ref p) ex rs ⟨p, us, rfl, hp, hpu, rr, ra⟩
theorem ef_comp {scope : Scope} {own : List (Str × Nat)} {g : SG} {ifs : List Expr} (hc : X.calm = true) (hN : X.N.Nodup) (hi : EvI X W tg iter mi) (ok : BlkOk X.N X.env.scope scope own)
    (hg : ∀ (s : Shared) (H : Hp) (C : Addr) (cl : List (Str × Addr)) (fp : List Addr), EvG (X.blk s H scope (compEnvC scope cl C X.env) fp) (own.map (·.2)) tg g)
    (ht : ∀ (s : Shared) (H : Hp) (C : Addr) (cl : List (Str × Addr)) (fp : List Addr), EvT (X.blk s H scope (compEnvC scope cl C X.env) fp) W0 ifs t)
    (he : ∀ (s : Shared) (H : Hp) (C : Addr) (cl : List (Str × Addr)) (fp : List Addr), EvE (X.blk s H scope (compEnvC scope cl C X.env) fp) W0 e m)
    (hs : ∀ x, foldedSetIterable iter X.env x = pure x := by intro _; rfl) :
    EvF X W (.ListComp e [⟨tg, iter, ifs, 0⟩] scope pos) (mComp mi g t m (own.map (·.2))) :=
  PE.imp (pe_lc (g := tG X.K (own.map (·.2)) g) (tt := tM X.K reB W0 t) (te := tM X.K (reD X.K) W0 m) hc hN hi ok hg ht he hs) fun σ H Q h => tM.lc h
/-- y = [..], where the store is swapped in -/
theorem ps_setC {i : Nat} {y : Str} {py spos : Pos} {scope : Scope} {own : List (Str × Nat)} {g : SG} {ifs : List Expr} {sm : SA → SE} (hsm : ∀ σ H Q, tM X.K (reD X.K) W (sm (mComp mi g t m (own.map (·.2)))) σ H Q → tM X.K (reN X.K) W (mComp mi g t m (own.map (·.2))) σ H Q)
    (hc : X.calm = true) (hN : X.N.Nodup) (hi : EvI X W tg iter mi) (ok : BlkOk X.N X.env.scope scope own)
    (hg : ∀ (s : Shared) (H : Hp) (C : Addr) (cl : List (Str × Addr)) (fp : List Addr), EvG (X.blk s H scope (compEnvC scope cl C X.env) fp) (own.map (·.2)) tg g)
    (ht : ∀ (s : Shared) (H : Hp) (C : Addr) (cl : List (Str × Addr)) (fp : List Addr), EvT (X.blk s H scope (compEnvC scope cl C X.env) fp) W0 ifs t)
    (he : ∀ (s : Shared) (H : Hp) (C : Addr) (cl : List (Str × Addr)) (fp : List Addr), EvE (X.blk s H scope (compEnvC scope cl C X.env) fp) W0 e m)
    (hy : X.N[i]? = some y := by rfl) (hyl : X.env.scope.names.lookup y = some .local := by rfl)
    (hsw : swapsWith (.ListComp e [⟨tg, iter, ifs, 0⟩] scope pos) (some (.Name y py)) spos.line X.env = pure true := by exact sw_true rfl rfl rfl (by decide +kernel))
    (hs : ∀ x, foldedSetIterable iter X.env x = pure x := by intro _; rfl) :
    EvS X W (.Assign [.Name y py] (.ListComp e [⟨tg, iter, ifs, 0⟩] scope pos) spos) (sSet i (sm (mComp mi g t m (own.map (·.2))))) :=
  PS.imp (ps_setLc (own := own) (g := tG X.K (own.map (fun p : Str × Nat => p.2)) g) (tt := tM X.K reB W0 t) (te := tM X.K (reD X.K) W0 m) hc hN hy hyl hsw hi ok hg ht he hs) fun D σ H ⟨ρ, τ, st, r0, en, o⟩ =>
    tM.lc (hsm σ H _ (tM.goS r0 en o fun d st1 ρ1 H1 v e1 r1 en1 q o1 => o1.next r1 (en1.set q i)))
end
end Fx

set_option Elab.async false
set_option linter.all false
set_option maxRecDepth 100000
set_option maxHeartbeats 4000000
namespace Fx
open PySem L2

/-! ### defs -/
abbrev FS := List D → Store → Rs D
def spF (K : PySem.W.Frag) (n : Nat) (f : FS) : Sp := fun vs H Q E => ∃ (ρ : Mp) (st : Store) (ds : List D), ds.length = n ∧ R K ρ st H ∧ RelDs K ρ st.length H ds vs ∧
  Out K (reD K) (fun c d _ H' => E c d H') [] ρ st.length H Q (f ds st)
abbrev FnD (P : Program) (w : World) (K : PySem.W.Frag) (mg : Str → Option Value) (base : Heap) (k : Nat) (f : Addr) (fd : FuncData) (ps : List Str) (fs : FS) : Prop :=
  FnOk P w K mg base (L2.CX P w) k f fd ps (spF K ps.length fs)

section
variable {X : Cx} {W : WX} {e a b c : Expr} {es : List Expr} {m ma mb mc : SE} {ms : SA} {u v : SS} {pos p : Pos} {k : Nat} {f : Addr} {fd : FuncData} {ps : List Str} {fs : FS} {x : Str}
def mCall (fs : FS) (ms : SA) : SE := fun τ st => (ms τ st).bind fs
theorem spF.of {W : WX} {σ : St} {ρ : Mp} {st : Store} {H : Hp} {Q : VK} {ds : List D} {vs : List V} {n : Nat} {K : PySem.W.Frag} (r : R K ρ st H) (rv : RelDs K ρ st.length H ds vs) (hl : ds.length = n) (o : Out K (reD K) W σ ρ st.length H Q (fs ds st)) : spF K n fs vs H Q (WE W σ) := by
  refine ⟨ρ, st, ds, hl, r, rv, ?_⟩
  cases q : fs ds st with
  | no => rw [q] at o; exact o
  | ok d s => rw [q] at o; exact o
  | er x s => rw [q] at o; exact o
theorem ev_call (F : FnD X.prog X.w X.K X.mg X.base k f fd ps fs) (hr : Room k X.A) (tk : Takes X W) (hm : X.mg x = some (.ref f)) (hk : PySem.W.keepIn X.K (.ref f) = true) (hb : Binds X.K fd ps []) (ha : EvA X W (e :: es) ms) (hl : LenA ms ps.length) (hg : Gl X x := by rfl)
    (hdb : (x == ("__debug__" : Str)) = false := by decide) (he : starEach (e :: es) X.env = (false, eval e X.env) :: starEach es X.env := by rfl) (hpl : (backTo pos (starEach es X.env)).any (·.1) = false := by rfl) :
    EvE X W (.Call (.Name x p) (e :: es) [] pos) (mCall fs ms) := PE.imp (pe_callS F hr hg hm hk hb (fun σ => passAt tk σ) ha hdb he hpl) fun σ H Q ⟨ρ, τ, st, r0, en, o⟩ => by
  refine ⟨ρ, τ, st, r0, en, ?_⟩
  cases q : ms τ st with
  | no => simp only [mCall, q] at o; exact o
  | er x s => simp only [mCall, q] at o; exact o
  | ok ds st1 =>
    simp only [mCall, q] at o
    exact fun ρ1 H1 vs e1 r1 rv => spF.of r1 rv (hl _ _ _ _ q) (Out.shift o r0 e1 r1)
/-- a call without arguments -/
theorem ev_call0 (F : FnD X.prog X.w X.K X.mg X.base k f fd [] fs) (hr : Room k X.A) (hno : ∀ st x s, fs [] st ≠ .er x s) (hm : X.mg x = some (.ref f)) (hk : PySem.W.keepIn X.K (.ref f) = true) (hb : Binds X.K fd [] []) (hg : Gl X x := by rfl)
    (hdb : (x == ("__debug__" : Str)) = false := by decide) : EvE X W (.Call (.Name x p) [] [] pos) (mCall fs mNil) :=
  PE.imp (pe_call0 (E := fun _ _ _ => False) (dvs := []) F hr hg hm hk hb .nil (fun pins σ H s e s' I c => by
    obtain ⟨_, _, _, _, _, _, _, _, _, _, _, _, z⟩ := c
    exact z.elim) hdb) fun σ H Q ⟨ρ, τ, st, r0, en, o⟩ => by
    show spF X.K 0 fs ([] ++ []) H Q _
    refine ⟨ρ, st, [], rfl, r0, .nil, ?_⟩
    have o' : Out X.K (reD X.K) W σ ρ st.length H Q (fs [] st) := o
    cases q : fs [] st with
    | no => rw [q] at o'; exact o'
    | ok d s => rw [q] at o'; exact o'
    | er x s => exact absurd q (hno _ _ _)
/-- a call of a local name that holds one of several defs -/
def mCallV (tab : Addr → Option (Nat × FS)) (i : Nat) (ms : SA) : SE := fun τ st => match τ[i]? with
  | some (some (.fn f)) => (match tab f with
    | some (n, fs) => (ms τ st).bind fun ds st1 => if ds.length = n then fs ds st1 else .no
    | none => .no)
  | _ => .no
def TabOk (P : Program) (w : World) (K : PySem.W.Frag) (mg : Str → Option Value) (base : Heap) (k : Nat) (tab : Addr → Option (Nat × FS)) : Prop :=
  ∀ f n fs, tab f = some (n, fs) → ∃ fd ps, ps.length = n ∧ FnD P w K mg base k f fd ps fs ∧ PySem.W.keepIn K (.ref f) = true ∧ Binds K fd ps []
theorem ev_callV {tab : Addr → Option (Nat × FS)} (i : Nat) (T : TabOk X.prog X.w X.K X.mg X.base k tab) (hr : Room k X.A) (tk : Takes X W) (ha : EvA X W (e :: es) ms) (hN : X.N[i]? = some x := by rfl)
    (hv : Vis X.env.scope x := by first | exact Or.inl rfl | exact Or.inr (Or.inl rfl) | exact Or.inr (Or.inr rfl))
    (hdb : (x == ("__debug__" : Str)) = false := by decide) (hcd : (x == ("__classdict__" : Str)) = false := by decide)
    (he : starEach (e :: es) X.env = (false, eval e X.env) :: starEach es X.env := by rfl) (hpl : (backTo pos (starEach es X.env)).any (·.1) = false := by rfl) : EvE X W (.Call (.Name x p) (e :: es) [] pos) (mCallV tab i ms) := by
  refine ⟨fun pins s σ H Q I h => ?_⟩
  obtain ⟨ρ, τ, st, r0, en, o⟩ := h
  unfold mCallV at o
  cases q : τ[i]? with
  | none => rw [q] at o; exact o.elim
  | some y =>
    rw [q] at o
    cases y with
    | none => exact o.elim
    | some d =>
      cases d with
      | fn f =>
        simp only at o
        cases q2 : tab f with
        | none => rw [q2] at o; exact o.elim
        | some nf =>
          obtain ⟨n, fs⟩ := nf
          rw [q2] at o
          simp only at o
          obtain ⟨fd, ps, hps, F, hk, hb⟩ := T f n fs q2
          obtain ⟨v, hs, rv⟩ := en.2 i _ q
          simp only [RelD] at rv
          subst rv
          refine (wpAny_Call_Name_kw (thn ((pe_var (pos := p) hN hv hdb hcd).run pins s σ H (fun v H1 => v = .ref f ∧ H1 = H) I ⟨.ref f, hs, rfl, rfl⟩) fun u s1 ⟨v, H1, I1, r1, q1⟩ => ?_))
          obtain ⟨rfl, rfl⟩ := q1
          cases r1
          have ht : tM X.K (reL X.K) W ms σ H1 fun vs H2 => spF X.K ps.length fs vs H2 Q (WE W σ) := by
            refine ⟨ρ, τ, st, r0, en, ?_⟩
            cases q3 : ms τ st with
            | no => rw [q3] at o; exact o
            | er x s => rw [q3] at o; exact o
            | ok ds st1 =>
              rw [q3] at o
              simp only [Rs.bind_ok] at o
              split at o
              · rename_i hl
                exact fun ρ1 H1 vs e1 r1 rv => spF.of r1 rv (hl.trans hps.symm) (Out.shift o r0 e1 r1)
              · exact o.elim
          refine PySem.W.callWith_K (h₀ := X.base) I.ok.mod.kin hk (thn (ha.run pos pins s1 σ _ _ I1 ht) fun us s2 ⟨vs, H2, I2, r, q⟩ => ⟨I2.kIn, ?_⟩) he hpl
          exact run_fnS F hr hb (passAt tk σ) I2 r q
      | _ => exact o.elim

/-- a body, run from its arguments -/
def runF (N : List Str) (m : SS) : FS := fun ds st => match m (ds.map some ++ List.replicate (N.length - ds.length) none) st with
  | .nx _ st' => .ok .non st'
  | .rt d st' => .ok d st'
  | .er x _ st' => .er x st'
  | _ => .no
end

section
variable {P : Program} {w : World} {K : PySem.W.Frag} {mg : Str → Option Value} {base : Heap}
theorem envR_start {ρ : Mp} {n : Nat} {H : Hp} {N : List Str} {ds : List D} {vs : List V} (rv : RelDs K ρ n H ds vs) : EnvR K ρ n H (ds.map some ++ List.replicate (N.length - ds.length) none) (L2.start N vs) := by
  have hl := rv.len
  refine ⟨by simp [L2.start, hl], fun i d q => ?_⟩
  by_cases hi : i < ds.length
  · rw [List.getElem?_append_left (by simpa using hi), List.getElem?_map] at q
    cases e : ds[i]? with
    | none => rw [e] at q; cases q
    | some d' =>
      rw [e] at q; cases q
      obtain ⟨v, h1, h2⟩ := rv.get e
      exact ⟨v, by unfold L2.start; rw [List.getElem?_append_left (by simpa [hl] using hi), List.getElem?_map, h1]; rfl, h2⟩
  · rw [List.getElem?_append_right (by simpa using hi), List.getElem?_replicate] at q
    split at q <;> cases q
/-- THE RULE of a def -/
theorem fn_def {x qual : Str} {st : Stmt} {f : Addr} {fd : FuncData} {N ps : List Str} {k : Nat} {m : SS} (F : Fun K x qual st f fd) (S : FnScope N ps (defScope st))
    (hbody : ∀ (cdv : Value) (A : Around) (outer : List PySem.Env) (s : Shared) (H : Hp) (E : XK) (X : Cx), X = cxOf (L2.CX P w) P w K mg base N qual (defScope st) f cdv A outer s H E → Room k X.A → Takes X (fun c d _ H => E c d H) → PassesOwn (model X.prog X.w) X.A X.env X.xe →
      EvSs (cxOf (L2.CX P w) P w K mg base N qual (defScope st) f cdv A outer s H E) (fun c d _ H => E c d H) (defBody st) m) : FnD P w K mg base (k + 1) f fd ps (runF N m) := by
  refine F.okX S (fun vs H Q E h => ?_) (fun cdv A outer s H vs Q E hr h => ?_)
  · obtain ⟨ρ, st, ds, hl, r, rv, o⟩ := h
    rw [rv.len, hl]
  · obtain ⟨ρ, st', ds, hl, r, rv, o⟩ := h
    refine ⟨_, hbody cdv A outer s H E _ rfl hr (takes_of rfl rfl rfl rfl) (passes_of rfl), ρ, _, st', r, envR_start (N := N) rv, ?_⟩
    unfold runF at o
    show OutS K _ ρ st'.length H _ (m _ st')
    cases q : m (ds.map some ++ List.replicate (N.length - ds.length) none) st' with
    | no => rw [q] at o; exact o
    | nx a b => rw [q] at o; exact fun ρ' H' σ' e' r' _ => o ρ' H' .non e' r' (by simp [reD, RelD])
    | rt a b => rw [q] at o; exact o
    | bk a b => rw [q] at o; exact o.elim
    | ct a b => rw [q] at o; exact o.elim
    | er x a b => rw [q] at o; exact fun ρ' H' σ' c d e' r' _ z => o ρ' H' c d e' r' z
end
end Fx

set_option Elab.async false
set_option linter.all false
set_option maxRecDepth 100000
set_option maxHeartbeats 4000000
namespace Fx
open PySem L2

/-! ### a def by what it gives: the objects that it leaves behind are forgotten, a list that it hands back is only read -/
mutual
def WfD (n : Nat) : D → Prop
  | .tup xs => WfDs n xs
  | .lst xs => WfDs n xs
  | .loc i => i < n
  | _ => True
def WfDs (n : Nat) : List D → Prop
  | [] => True
  | d :: ds => WfD n d ∧ WfDs n ds
end
def WfO (n : Nat) : O → Prop
  | .lst xs => WfDs n xs
  | .dk kvs => ∀ p ∈ kvs, WfD n p.2
  | .dt kvs => ∀ p ∈ kvs, WfD n p.2
def WfS (n : Nat) (st : Store) : Prop := ∀ (i : Nat) (o : O), st[i]? = some o → WfO n o
mutual
inductive Cv (n : Nat) (S : Store) : D → D → Prop
  | refl {d : D} (h : WfD n d) : Cv n S d d
  | tup {xs ys : List D} (h : Cvs n S xs ys) : Cv n S (.tup xs) (.tup ys)
  | lst {xs ys : List D} (h : Cvs n S xs ys) : Cv n S (.lst xs) (.lst ys)
  | frz {i : Nat} {xs ys : List D} (hn : n ≤ i) (hi : S[i]? = some (.lst xs)) (h : Cvs n S xs ys) : Cv n S (.loc i) (.lst ys)
inductive Cvs (n : Nat) (S : Store) : List D → List D → Prop
  | nil : Cvs n S [] []
  | cons {x y : D} {xs ys : List D} (h : Cv n S x y) (t : Cvs n S xs ys) : Cvs n S (x :: xs) (y :: ys)
end
theorem Cvs.refl {n : Nat} {S : Store} : ∀ {ds : List D}, WfDs n ds → Cvs n S ds ds
  | [], _ => .nil
  | d :: ds, h => by simp only [WfDs] at h; exact .cons (.refl h.1) (Cvs.refl h.2)
section
variable {K : PySem.W.Frag} {ρ : Mp} {n m : Nat} {H : Hp} {S st : Store}
mutual
theorem RelD.wf : ∀ (d : D) {v : V}, RelD K ρ n H d v → WfD n d
  | .non, v, h => by simp [WfD]
  | .bl b, v, h => by simp [WfD]
  | .int b, v, h => by simp [WfD]
  | .str b, v, h => by simp [WfD]
  | .ty b, v, h => by simp [WfD]
  | .fn b, v, h => by simp [WfD]
  | .tup xs, v, h => by
    simp only [RelD] at h
    obtain ⟨a, vs, _, _, q⟩ := h
    simp only [WfD]; exact RelDs.wf xs q
  | .lst xs, v, h => by
    simp only [RelD] at h
    obtain ⟨a, vs, _, _, q⟩ := h
    simp only [WfD]; exact RelDs.wf xs q
  | .loc i, v, h => by simp only [RelD] at h; simp only [WfD]; exact h.2
theorem RelDs.wf : ∀ (ds : List D) {vs : List V}, RelDs K ρ n H ds vs → WfDs n ds
  | [], vs, h => by simp [WfDs]
  | d :: ds, vs, h => by
    simp only [RelDs] at h
    obtain ⟨v, w, rfl, h1, h2⟩ := h
    simp only [WfDs]; exact ⟨RelD.wf d h1, RelDs.wf ds h2⟩
end
mutual
theorem RelD.less (hn : n ≤ m) : ∀ (d : D) {v : V}, RelD K ρ m H d v → WfD n d → RelD K ρ n H d v
  | .non, v, h, _ => by simpa only [RelD] using h
  | .bl b, v, h, _ => by simpa only [RelD] using h
  | .int b, v, h, _ => by simpa only [RelD] using h
  | .str b, v, h, _ => by simpa only [RelD] using h
  | .ty b, v, h, _ => by simpa only [RelD] using h
  | .fn b, v, h, _ => by simpa only [RelD] using h
  | .tup xs, v, h, q => by
    simp only [RelD] at h ⊢
    simp only [WfD] at q
    obtain ⟨a, vs, e, s, r⟩ := h
    exact ⟨a, vs, e, s, RelDs.less hn xs r q⟩
  | .lst xs, v, h, q => by
    simp only [RelD] at h ⊢
    simp only [WfD] at q
    obtain ⟨a, vs, e, s, r⟩ := h
    exact ⟨a, vs, e, s.imp (fun ⟨x, y, z⟩ => ⟨x, fun i hi => y i (Nat.lt_of_lt_of_le hi hn), z⟩) id, RelDs.less hn xs r q⟩
  | .loc i, v, h, q => by
    simp only [RelD] at h ⊢
    simp only [WfD] at q
    exact ⟨h.1, q⟩
theorem RelDs.less (hn : n ≤ m) : ∀ (ds : List D) {vs : List V}, RelDs K ρ m H ds vs → WfDs n ds → RelDs K ρ n H ds vs
  | [], vs, h, _ => by simpa only [RelDs] using h
  | d :: ds, vs, h, q => by
    simp only [RelDs] at h ⊢
    simp only [WfDs] at q
    obtain ⟨v, w, e, h1, h2⟩ := h
    exact ⟨v, w, e, RelD.less hn d h1 q.1, RelDs.less hn ds h2 q.2⟩
end
theorem Paired.withMem {α β : Type} {F G : α → β → Prop} : ∀ {l₁ : List α} {l₂ : List β}, Paired F l₁ l₂ → (∀ a b, a ∈ l₁ → F a b → G a b) → Paired G l₁ l₂
  | _, _, .nil, _ => .nil
  | _, _, .cons r t, f => .cons (f _ _ List.mem_cons_self r) (Paired.withMem t fun a b h q => f a b (List.mem_cons_of_mem _ h) q)
theorem Paired.left {α β : Type} {F : α → β → Prop} {P : α → Prop} : ∀ {l₁ : List α} {l₂ : List β}, Paired F l₁ l₂ → (∀ a b, F a b → P a) → ∀ a ∈ l₁, P a
  | _, _, .nil, _, a, h => by simp at h
  | _, _, .cons r t, f, a, h => by
    rcases List.mem_cons.mp h with rfl | h
    · exact f _ _ r
    · exact Paired.left t f a h
theorem ObjR.wf {o : O} {a : Addr} (h : ObjR K ρ n H o a) : WfO n o := by
  cases o with
  | lst ds => obtain ⟨vs, _, q⟩ := h; exact RelDs.wf ds q
  | dk kvs => obtain ⟨ws, _, q⟩ := h; exact Paired.left q fun a b z => RelD.wf _ z.2
  | dt kvs => obtain ⟨ws, _, q⟩ := h; exact Paired.left q fun a b z => RelD.wf _ z.2
theorem ObjR.less (hn : n ≤ m) {o : O} {a : Addr} (h : ObjR K ρ m H o a) (w : WfO n o) : ObjR K ρ n H o a := by
  cases o with
  | lst ds => obtain ⟨vs, e, q⟩ := h; exact ⟨vs, e, RelDs.less hn ds q w⟩
  | dk kvs => obtain ⟨ws, e, q⟩ := h; exact ⟨ws, e, Paired.withMem q fun a b hm z => ⟨z.1, RelD.less hn _ z.2 (w a hm)⟩⟩
  | dt kvs => obtain ⟨ws, e, q⟩ := h; exact ⟨ws, e, Paired.withMem q fun a b hm z => ⟨z.1, RelD.less hn _ z.2 (w a hm)⟩⟩
theorem R.wf (r : R K ρ st H) : WfS st.length st := fun i o h => (r.obj i o h).wf
theorem R.forget {g : Store} (r : R K ρ (st ++ g) H) (w : WfS st.length st) : R K ρ st H := by
  have hl : st.length ≤ (st ++ g).length := by simp
  refine ⟨fun i o h => ?_, fun i j hi hj => r.inj i j (by omega) (by omega), r.hid, fun i hi => r.sep i (by omega)⟩
  have hi : i < st.length := (List.getElem?_eq_some_iff.mp h).1
  exact (r.obj i o (by rw [List.getElem?_append_left hi]; exact h)).less hl (w i o h)
mutual
theorem Cv.rel (r : R K ρ S H) (hn : n ≤ S.length) : ∀ {d d' : D} {v : V}, Cv n S d d' → RelD K ρ S.length H d v → RelD K ρ n H d' v
  | d, _, v, .refl w, h => RelD.less hn d h w
  | .tup xs, .tup ys, v, .tup c, h => by
    simp only [RelD] at h ⊢
    obtain ⟨a, vs, e, s, q⟩ := h
    exact ⟨a, vs, e, s, Cvs.rel r hn c q⟩
  | .lst xs, .lst ys, v, .lst c, h => by
    simp only [RelD] at h ⊢
    obtain ⟨a, vs, e, s, q⟩ := h
    exact ⟨a, vs, e, s.imp (fun ⟨x, y, z⟩ => ⟨x, fun i hi => y i (Nat.lt_of_lt_of_le hi hn), z⟩) id, Cvs.rel r hn c q⟩
  | .loc i, .lst ys, v, .frz (xs := xs) hi hs c, h => by
    simp only [RelD] at h ⊢
    obtain ⟨rfl, hl⟩ := h
    obtain ⟨vs, e, q⟩ := r.obj i _ hs
    exact ⟨_, vs, rfl, .inl ⟨.inl e, fun j hj z => absurd (r.inj j i (by omega) hl z) (by omega), r.sep i hl⟩, Cvs.rel r hn c q⟩
theorem Cvs.rel (r : R K ρ S H) (hn : n ≤ S.length) : ∀ {ds ds' : List D} {vs : List V}, Cvs n S ds ds' → RelDs K ρ S.length H ds vs → RelDs K ρ n H ds' vs
  | [], [], vs, .nil, h => by simpa only [RelDs] using h
  | d :: ds, d' :: ds', vs, .cons c t, h => by
    simp only [RelDs] at h ⊢
    obtain ⟨v, w, e, h1, h2⟩ := h
    exact ⟨v, w, e, Cv.rel r hn c h1, Cvs.rel r hn t h2⟩
end
end

/-- r' says of r what callers need -/
def Ref (n0 : Nat) (r' r : Rs D) : Prop := match r' with
  | .no => True
  | .ok d' st' => ∃ d g, r = .ok d (st' ++ g) ∧ Cv st'.length (st' ++ g) d d' ∧ WfS st'.length st' ∧ n0 ≤ st'.length
  | .er x st' => ∃ g, r = .er x (st' ++ g) ∧ (∀ fs, x.fs = some fs → ∀ p ∈ fs, WfD st'.length p.2) ∧ WfS st'.length st' ∧ n0 ≤ st'.length
theorem fn_ref {P : Program} {w : World} {K : PySem.W.Frag} {mg : Str → Option Value} {base : Heap} {k : Nat} {f : Addr} {fd : FuncData} {ps : List Str} {fs fs' : FS} (F : FnD P w K mg base k f fd ps fs)
    (h : ∀ ds st, ds.length = ps.length → WfDs st.length ds → WfS st.length st → Ref st.length (fs' ds st) (fs ds st)) : FnD P w K mg base k f fd ps fs' := by
  refine FnOk.imp F fun vs H Q E hs => ?_
  obtain ⟨ρ, st, ds, hl, r, rv, o⟩ := hs
  refine ⟨ρ, st, ds, hl, r, rv, ?_⟩
  have q := h ds st hl (RelDs.wf ds rv) r.wf
  cases e : fs' ds st with
  | no => rw [e] at o; exact o.elim
  | ok d' st' =>
    rw [e] at o q
    obtain ⟨d, g, e2, c, wf, le⟩ := q
    rw [e2]
    intro ρ1 H1 v e1 r1 rd
    have hl' : st'.length ≤ (st' ++ g).length := by simp
    exact o ρ1 H1 v ⟨le, e1.old, fun i h1 h2 => e1.new i h1 (by omega), e1.keep, e1.hid⟩ (r1.forget wf) (Cv.rel r1 hl' c rd)
  | er x st' =>
    rw [e] at o q
    obtain ⟨g, e2, c, wf, le⟩ := q
    rw [e2]
    intro ρ1 H1 cls dd e1 r1 rd
    have hl' : st'.length ≤ (st' ++ g).length := by simp
    refine o ρ1 H1 cls dd ⟨le, e1.old, fun i h1 h2 => e1.new i h1 (by omega), e1.keep, e1.hid⟩ (r1.forget wf) ?_
    obtain ⟨hc, rd⟩ := rd
    refine ⟨hc, ?_⟩
    cases q1 : x.fs with
    | none =>
      rw [q1] at rd
      cases dd with
      | none => exact trivial
      | some d => exact rd.elim
    | some fs1 =>
      rw [q1] at rd
      cases dd with
      | none => exact rd.elim
      | some d =>
        obtain ⟨ws, hw, p⟩ := rd
        exact ⟨ws, hw, Paired.withMem p fun a b hm z => ⟨z.1, RelD.less hl' _ z.2 (c fs1 q1 a hm)⟩⟩
theorem Ref.no {n0 : Nat} {r : Rs D} : Ref n0 .no r := trivial
theorem Ref.pure {n0 : Nat} {d : D} {st : Store} {r : Rs D} (hw : WfS st.length st) (hd : WfD st.length d) (hn : n0 ≤ st.length) (g : Store) (e : r = .ok d (st ++ g)) : Ref n0 (.ok d st) r := ⟨d, g, e, .refl hd, hw, hn⟩
theorem Ref.err {n0 : Nat} {x : Ex} {st : Store} {r : Rs D} (hw : WfS st.length st) (hd : ∀ fs, x.fs = some fs → ∀ p ∈ fs, WfD st.length p.2) (hn : n0 ≤ st.length) (g : Store) (e : r = .er x (st ++ g)) : Ref n0 (.er x st) r := ⟨g, e, hd, hw, hn⟩
/-- a list made by the def is handed back -/
theorem Ref.list {n0 : Nat} {xs : List D} {st g : Store} {r : Rs D} {i : Nat} (hw : WfS st.length st) (hd : WfDs st.length xs) (hn : n0 ≤ st.length) (e : r = .ok (.loc i) (st ++ g)) (hi : st.length ≤ i) (hg : (st ++ g)[i]? = some (.lst xs)) : Ref n0 (.ok (.lst xs) st) r :=
  ⟨_, g, e, .frz hi hg (Cvs.refl hd), hw, hn⟩
end Fx

set_option Elab.async false
set_option linter.all false
set_option maxRecDepth 100000
set_option maxHeartbeats 4000000
namespace Fx
open PySem L2

/-! ### reading sequences -/
def seqOf (d : D) (st : Store) : Option (List D) := match d with
  | .tup ds => some ds
  | .lst ds => some ds
  | .loc i => (match st[i]? with
    | some (.lst ds) => some ds
    | _ => none)
  | _ => none
def listOf (d : D) (st : Store) : Option (List D) := match d with
  | .lst ds => some ds
  | .loc i => (match st[i]? with
    | some (.lst ds) => some ds
    | _ => none)
  | _ => none
section
variable {K : PySem.W.Frag} {ρ : Mp} {st : Store} {H : Hp} {d : D} {v : V} {ds : List D}
theorem listOf_rel (r : R K ρ st H) (h : RelD K ρ st.length H d v) (e : listOf d st = some ds) : ∃ a vs, v = .ref a ∧ SqL K H a vs ∧ RelDs K ρ st.length H ds vs := by
  cases d with
  | lst xs =>
    simp only [listOf] at e; cases e
    simp only [RelD] at h
    obtain ⟨a, vs, rfl, s, q⟩ := h
    exact ⟨a, vs, rfl, s.sq, q⟩
  | loc i =>
    simp only [listOf] at e
    simp only [RelD] at h
    obtain ⟨rfl, _⟩ := h
    cases q : st[i]? with
    | none => rw [q] at e; cases e
    | some o =>
      rw [q] at e
      cases o with
      | lst xs =>
        cases e
        obtain ⟨vs, hv, rv⟩ := r.obj i _ q
        exact ⟨_, vs, rfl, SqL.of hv, rv⟩
      | _ => cases e
  | _ => cases e
theorem seqOf_rel (r : R K ρ st H) (h : RelD K ρ st.length H d v) (e : seqOf d st = some ds) : ∃ a vs, v = .ref a ∧ (SqL K H a vs ∨ H a = some (.tup vs)) ∧ RelDs K ρ st.length H ds vs := by
  cases d with
  | tup xs =>
    simp only [seqOf] at e; cases e
    simp only [RelD] at h
    obtain ⟨a, vs, rfl, s, q⟩ := h
    exact ⟨a, vs, rfl, .inr s, q⟩
  | lst xs =>
    obtain ⟨a, vs, h1, h2, h3⟩ := listOf_rel r h (show listOf (.lst xs) st = some ds from e)
    exact ⟨a, vs, h1, .inl h2, h3⟩
  | loc i =>
    obtain ⟨a, vs, h1, h2, h3⟩ := listOf_rel r h (show listOf (.loc i) st = some ds from e)
    exact ⟨a, vs, h1, .inl h2, h3⟩
  | _ => cases e
theorem loc_rel (r : R K ρ st H) {i : Nat} (h : RelD K ρ st.length H (.loc i) v) (e : st[i]? = some (.lst ds)) : i < st.length ∧ v = .ref (ρ.at' i) ∧ ∃ vs, H (ρ.at' i) = some (.lst vs) ∧ RelDs K ρ st.length H ds vs := by
  simp only [RelD] at h
  obtain ⟨vs, hv, rv⟩ := r.obj i _ e
  exact ⟨h.2, h.1, vs, hv, rv⟩
end

/-! ### the ints' operators -/
section
variable {X : Cx} {W : WX}
theorem opS_ints {g : Value → Value → Sem Value} {C : Int → Int → Prop} {h : Int → Int → V} {hd : Int → Int → D} {f : D → D → Store → Rs D} (ho : OpR X g (rI C h))
    (hf : ∀ x y st, f x y st ≠ .no → ∃ i j, x = .int i ∧ y = .int j ∧ C i j ∧ f x y st = .ok (hd i j) st) (hr : ∀ i j ρ n H, RelD X.K ρ n H (hd i j) (h i j)) : OpS X g f := by
  refine ⟨_, ho, fun W σ ρ st H x y vx vy Q r rx ry o => ?_⟩
  have hn : f x y st ≠ .no := fun z => by rw [z] at o; exact o
  obtain ⟨i, j, rfl, rfl, c, e⟩ := hf x y st hn
  simp only [RelD] at rx ry
  rw [e] at o
  exact ⟨i, j, rx, ry, c, o.here r (hr _ _ _ _ _)⟩
def onII (f : Int → Int → D) : D → D → Store → Rs D := fun x y st => match x, y with
  | .int i, .int j => .ok (f i j) st
  | _, _ => .no
def onIIc (c : Int → Int → Bool) (f : Int → Int → D) : D → D → Store → Rs D := fun x y st => match x, y with
  | .int i, .int j => if c i j = true then .ok (f i j) st else .no
  | _, _ => .no
theorem onII_ok {f : Int → Int → D} {x y : D} {st : Store} (h : onII f x y st ≠ .no) : ∃ i j, x = .int i ∧ y = .int j ∧ True ∧ onII f x y st = .ok (f i j) st := by
  cases x with
  | int i =>
    cases y with
    | int j => exact ⟨i, j, rfl, rfl, trivial, rfl⟩
    | _ => exact absurd rfl h
  | _ => exact absurd rfl h
theorem onIIc_ok {c : Int → Int → Bool} {f : Int → Int → D} {x y : D} {st : Store} (h : onIIc c f x y st ≠ .no) : ∃ i j, x = .int i ∧ y = .int j ∧ c i j = true ∧ onIIc c f x y st = .ok (f i j) st := by
  cases x with
  | int i =>
    cases y with
    | int j =>
      simp only [onIIc] at h ⊢
      by_cases hc : c i j = true
      · exact ⟨i, j, rfl, rfl, hc, by rw [if_pos hc]⟩
      · rw [if_neg hc] at h; exact absurd rfl h
    | _ => exact absurd rfl h
  | _ => exact absurd rfl h
theorem rI_of0 {g : Value → Value → Sem Value} {h : Int → Int → V} (ho : OpR X g (rI0 h)) : OpR X g (rI (fun _ _ => True) h) := fun pins s σ H x y v u Q I rx ry ⟨i, j, e1, e2, _, q⟩ => ho pins s σ H x y v u Q I rx ry ⟨i, j, e1, e2, q⟩
/-- the bits of two factors -/
theorem ex_mulFits : ∃ f : Int → Int → Bool, ∀ i j, f i j = true ↔ ((-18446744073709551616 < i ∧ i < 18446744073709551616) ∨ (-18446744073709551616 < j ∧ j < 18446744073709551616) ∨ i.natAbs.log2 + j.natAbs.log2 < 100000000) :=
  ⟨fun i j => decide ((-18446744073709551616 < i ∧ i < 18446744073709551616) ∨ (-18446744073709551616 < j ∧ j < 18446744073709551616) ∨ i.natAbs.log2 + j.natAbs.log2 < 100000000), fun i j => decide_eq_true_iff⟩
noncomputable def mulFits : Int → Int → Bool := ex_mulFits.choose
theorem mulFits_iff {i j : Int} : mulFits i j = true ↔ ((-18446744073709551616 < i ∧ i < 18446744073709551616) ∨ (-18446744073709551616 < j ∧ j < 18446744073709551616) ∨ i.natAbs.log2 + j.natAbs.log2 < 100000000) := ex_mulFits.choose_spec i j
theorem mulFits_ok {i j : Int} (h : mulFits i j = true) : IntMulOk i j := by
  rcases mulFits_iff.mp h with h | h | h
  · exact IntMulOk.of_left (intBits_le_64 (by omega) (by omega))
  · exact IntMulOk.of_right (intBits_le_64 (by omega) (by omega))
  have b : ∀ x : Int, Builtin.Int.intBits x ≤ x.natAbs.log2 + 1 := fun x => by
    unfold Builtin.Int.intBits
    split <;> omega
  have h1 := b i
  have h2 := b j
  have h3 : i.natAbs.log2 + j.natAbs.log2 < 100000000 := h
  have e : bitsLine = 134217728 := by decide
  unfold IntMulOk
  intro z
  rw [Bool.and_eq_true] at z
  have z2 := z.2
  unfold Builtin.Int.intTooBig at z2
  have z3 := of_decide_eq_true z2
  rw [e] at z3
  omega
theorem ex_divFits : ∃ f : Int → Int → Bool, ∀ i j, f i j = true ↔ (0 < j ∧ j.natAbs.log2 < 9000) := ⟨fun _ j => decide (0 < j ∧ j.natAbs.log2 < 9000), fun i j => decide_eq_true_iff⟩
noncomputable def divFits : Int → Int → Bool := ex_divFits.choose
theorem divFits_iff {i j : Int} : divFits i j = true ↔ (0 < j ∧ j.natAbs.log2 < 9000) := ex_divFits.choose_spec i j
theorem opS_sub : OpS X (binaryOp .Sub) (onII fun i j => .int (i - j)) := opS_ints (rI_of0 op_sub) (fun x y st h => onII_ok h) (fun _ _ _ _ _ => by simp [RelD])
theorem op_mulX : OpR X (binaryOp .Mult) (rI (fun i j => mulFits i j = true) fun i j => .int (i * j)) := opI fun _ _ _ _ _ _ _ hc q => PyProof.Rows.mul_int q (mulFits_ok hc)
theorem opS_mulI : OpS X (binaryOp .Mult) (onIIc mulFits fun i j => .int (i * j)) := opS_ints op_mulX (fun x y st h => onIIc_ok h) (fun _ _ _ _ _ => by simp [RelD])
theorem op_fdivX : OpR X (binaryOp .FloorDiv) (rI (fun i j => divFits i j = true) fun i j => .int (i / j)) := opI fun i j _ _ _ _ _ hc q => by
  obtain ⟨h1, h2⟩ := divFits_iff.mp hc
  exact PyProof.Rows.floordiv_int (by omega) (by rw [Int.fdiv_eq_ediv_of_nonneg i (by omega)]; exact q) (.inl (PyProof.noPylong_of_log2 h2))
theorem opS_fdiv : OpS X (binaryOp .FloorDiv) (onIIc divFits fun i j => .int (i / j)) := opS_ints op_fdivX (fun x y st h => onIIc_ok h) (fun _ _ _ _ _ => by simp [RelD])
theorem opS_mod : OpS X (binaryOp .Mod) (onIIc (fun _ j => decide (0 < j)) fun i j => .int (i % j)) :=
  opS_ints (C := fun i j => decide (0 < j) = true) (fun pins s σ H x y v u Q I rx ry ⟨i, j, e1, e2, c, q⟩ => op_mod pins s σ H x y v u Q I rx ry ⟨i, j, e1, e2, of_decide_eq_true c, q⟩) (fun x y st h => onIIc_ok h) (fun _ _ _ _ _ => by simp [RelD])
theorem opS_lt : OpS X (compareOp .Lt) (onII fun i j => .bl (decide (i < j))) := opS_ints (rI_of0 op_lt) (fun x y st h => onII_ok h) (fun _ _ _ _ _ => by simp [RelD])
theorem opS_le : OpS X (compareOp .LtE) (onII fun i j => .bl (decide (i ≤ j))) := opS_ints (rI_of0 op_le) (fun x y st h => onII_ok h) (fun _ _ _ _ _ => by simp [RelD])
theorem opS_gt : OpS X (compareOp .Gt) (onII fun i j => .bl (decide (j < i))) := opS_ints (rI_of0 op_gt) (fun x y st h => onII_ok h) (fun _ _ _ _ _ => by simp [RelD])
theorem opS_ge : OpS X (compareOp .GtE) (onII fun i j => .bl (decide (j ≤ i))) := opS_ints (rI_of0 op_ge) (fun x y st h => onII_ok h) (fun _ _ _ _ _ => by simp [RelD])
/-! + of ints, texts, tuples, lists -/
noncomputable def fAdd : D → D → Store → Rs D := fun x y st => match x, y with
  | .int i, .int j => .ok (.int (i + j)) st
  | .str a, .str b => if szFits (a.length + b.length) = true then .ok (.str (a ++ b)) st else .no
  | .tup a, .tup b => if szFits (a.length + b.length) = true then .ok (.tup (a ++ b)) st else .no
  | x, y => .no
theorem opS_add : OpS X (binaryOp .Add) fAdd := by
  refine ⟨_, (op_add.or op_add_str).or op_catA, fun W σ ρ st H x y vx vy Q r rx ry o => ?_⟩
  cases x with
  | int i =>
    cases y with
    | int j => simp only [RelD] at rx ry; exact .inl (.inl ⟨i, j, rx, ry, o.here r (by simp [reD, RelD])⟩)
    | _ => exact o.elim
  | str a =>
    cases y with
    | str b =>
      simp only [RelD] at rx ry
      simp only [fAdd] at o
      split at o
      · rename_i h; exact .inl (.inr ⟨a, b, rx, ry, szFits_iff.mp h, o.here r (by simp [reD, RelD])⟩)
      · exact o.elim
    | _ => exact o.elim
  | tup a =>
    cases y with
    | tup b =>
      simp only [RelD] at rx ry
      simp only [fAdd] at o
      obtain ⟨p, us, rfl, hs, rs⟩ := rx
      obtain ⟨p2, ws, rfl, ht, rt⟩ := ry
      split at o
      · rename_i h0
        have h := szFits_iff.mp h0
        refine .inr ⟨p, p2, us, ws, rfl, rfl, SqT.of hs, SqT.of ht, by rw [rs.len, rt.len]; exact h, fun e => ?_, fun e1 e2 => ?_, fun e1 e2 q hq => ?_⟩
        · subst e
          have : a = [] := List.length_eq_zero_iff.mp (by rw [← rs.len]; rfl)
          subst this
          exact o.here r (by simp only [reD, RelD, List.nil_append]; exact ⟨p2, ws, rfl, ht, rt⟩)
        · subst e2
          have : b = [] := List.length_eq_zero_iff.mp (by rw [← rt.len]; rfl)
          subst this
          exact o.here r (by simp only [reD, RelD, List.append_nil]; exact ⟨p, us, rfl, hs, rs⟩)
        · refine o.free r hq ?_
          simp only [reD, RelD]
          exact ⟨q, _, rfl, upd_same, RelDs.mono (r.push_ext hq) r _ (rs.append rt)⟩
      · exact o.elim
    | _ => exact o.elim
  | _ => exact o.elim

/-! ### == -/
mutual
def toPy : D → PyData
  | .bl b => .bool b
  | .int i => .int i
  | .str x => .str x
  | .tup xs => .tuple (toPys xs)
  | .lst xs => .list (toPys xs)
  | _ => .none
def toPys : List D → List PyData
  | [] => []
  | d :: ds => toPy d :: toPys ds
end
mutual
def dOk : D → Bool
  | .non => true
  | .bl _ => true
  | .int _ => true
  | .str x => PyData.strOk x
  | .tup xs => dOks xs
  | .lst xs => dOks xs
  | _ => false
def dOks : List D → Bool
  | [] => true
  | d :: ds => dOk d && dOks ds
end
mutual
theorem canLay_of : ∀ d : D, dOk d = true → (toPy d).canLay0 = true
  | .non, _ => rfl
  | .bl _, _ => rfl
  | .int _, _ => rfl
  | .str x, h => h
  | .tup xs, h => by
    simp only [dOk] at h; simp only [toPy, PyData.canLay0]; exact canLays_of xs h
  | .lst xs, h => by
    simp only [dOk] at h; simp only [toPy, PyData.canLay0]; exact canLays_of xs h
theorem canLays_of : ∀ ds : List D, dOks ds = true → PyData.canLayAll0 (toPys ds) = true
  | [], _ => rfl
  | d :: ds, h => by
    simp only [dOks, Bool.and_eq_true] at h
    simp only [toPys, PyData.canLayAll0, Bool.and_eq_true]
    exact ⟨canLay_of d h.1, canLays_of ds h.2⟩
end
section
variable {K : PySem.W.Frag} {ρ : Mp} {n : Nat} {H : Hp}
mutual
theorem dp_of : ∀ (d : D) {v : V}, dOk d = true → RelD K ρ n H d v → Dp K H v (toPy d)
  | .non, v, _, h => by simp only [RelD] at h; subst h; exact .non
  | .bl b, v, _, h => by simp only [RelD] at h; subst h; exact .bl b
  | .int b, v, _, h => by simp only [RelD] at h; subst h; exact .int b
  | .str b, v, _, h => by simp only [RelD] at h; subst h; exact .str b
  | .tup xs, v, k, h => by
    simp only [RelD] at h
    simp only [dOk] at k
    obtain ⟨a, vs, rfl, s, q⟩ := h
    simp only [toPy]
    exact .tup (SqT.of s) (dps_of xs k q)
  | .lst xs, v, k, h => by
    simp only [RelD] at h
    simp only [dOk] at k
    obtain ⟨a, vs, rfl, s, q⟩ := h
    simp only [toPy]
    exact .lst s.sq (dps_of xs k q)
theorem dps_of : ∀ (ds : List D) {vs : List V}, dOks ds = true → RelDs K ρ n H ds vs → DpAll K H vs (toPys ds)
  | [], vs, _, h => by rw [h.nil_eq]; exact .nil
  | d :: ds, vs, k, h => by
    simp only [dOks, Bool.and_eq_true] at k
    obtain ⟨v, w, rfl, h1, h2⟩ := h.cases
    simp only [toPys]
    exact .cons (dp_of d k.1 h1) (dps_of ds k.2 h2)
end
end
def shD (d : D) : Bool := dOk d && decide ((toPy d).depth ≤ 64)
theorem shaped_of {d : D} (h : shD d = true) : SeqAt.shaped (toPy d) = true := by
  unfold shD at h
  rw [Bool.and_eq_true] at h
  unfold SeqAt.shaped
  rw [canLay_of d h.1, h.2]; rfl
def eqD (x y : D) : Bool := PyData.eqv (toPy x) (toPy y)
def fEq : D → D → Store → Rs D := fun x y st => if shD x = true ∧ shD y = true then .ok (.bl (eqD x y)) st else .no
def fNe : D → D → Store → Rs D := fun x y st => if shD x = true ∧ shD y = true then .ok (.bl (!eqD x y)) st else .no
theorem shD_ok {d : D} (h : shD d = true) : dOk d = true := by unfold shD at h; rw [Bool.and_eq_true] at h; exact h.1
theorem opS_eq (hu : X.A.units + 64 < cLine) : OpS X (compareOp .Eq) fEq := by
  refine ⟨_, op_eqD hu, fun W σ ρ st H x y vx vy Q r rx ry o => ?_⟩
  unfold fEq at o
  split at o
  · rename_i h
    exact ⟨_, _, dp_of x (shD_ok h.1) rx, dp_of y (shD_ok h.2) ry, shaped_of h.1, shaped_of h.2, o.here r (by simp [reD, RelD, eqD])⟩
  · exact o.elim
theorem opS_ne (hu : X.A.units + 64 < cLine) : OpS X (compareOp .NotEq) fNe := by
  refine ⟨_, op_neD hu, fun W σ ρ st H x y vx vy Q r rx ry o => ?_⟩
  unfold fNe at o
  split at o
  · rename_i h
    exact ⟨_, _, dp_of x (shD_ok h.1) rx, dp_of y (shD_ok h.2) ry, shaped_of h.1, shaped_of h.2, o.here r (by simp [reD, RelD, eqD])⟩
  · exact o.elim
/-! ### is -/
def fIs : D → D → Store → Rs D := fun x y st => match x, y with
  | .bl a, .bl b => .ok (.bl (decide (a = b))) st
  | .non, .non => .ok (.bl true) st
  | .bl _, .non => .ok (.bl false) st
  | .int _, .non => .ok (.bl false) st
  | .str _, .non => .ok (.bl false) st
  | .tup _, .non => .ok (.bl false) st
  | .lst _, .non => .ok (.bl false) st
  | .loc _, .non => .ok (.bl false) st
  | .fn _, .non => .ok (.bl false) st
  | _, _ => .no
def fIsNot : D → D → Store → Rs D := fun x y st => (fIs x y st).bind fun d st1 => match d with
  | .bl b => .ok (.bl (!b)) st1
  | _ => .no
theorem opS_is : OpS X (compareOp .Is) fIs := by
  refine ⟨_, op_isBl.or op_isN, fun W σ ρ st H x y vx vy Q r rx ry o => ?_⟩
  cases y with
  | bl b =>
    cases x with
    | bl a => simp only [RelD] at rx ry; exact .inl ⟨a, b, rx, ry, o.here r (by simp [reD, RelD])⟩
    | _ => exact o.elim
  | non =>
    simp only [RelD] at ry
    subst ry
    refine .inr ⟨rfl, ?_⟩
    cases x with
    | non => simp only [RelD] at rx; subst rx; exact o.here r (by simp [reD, RelD])
    | bl a => simp only [RelD] at rx; subst rx; exact o.here r (by simp [reD, RelD])
    | int a => simp only [RelD] at rx; subst rx; exact o.here r (by simp [reD, RelD])
    | str a => simp only [RelD] at rx; subst rx; exact o.here r (by simp [reD, RelD])
    | fn a => simp only [RelD] at rx; subst rx; exact o.here r (by simp [reD, RelD])
    | tup a => simp only [RelD] at rx; obtain ⟨_, _, rfl, _⟩ := rx; exact o.here r (by simp [reD, RelD])
    | lst a => simp only [RelD] at rx; obtain ⟨_, _, rfl, _⟩ := rx; exact o.here r (by simp [reD, RelD])
    | loc a => simp only [RelD] at rx; obtain ⟨rfl, _⟩ := rx; exact o.here r (by simp [reD, RelD])
    | ty a => exact o.elim
  | _ => cases x <;> exact o.elim
theorem opS_isNot : OpS X (compareOp .IsNot) fIsNot := by
  refine ⟨_, op_notBl.or op_notN, fun W σ ρ st H x y vx vy Q r rx ry o => ?_⟩
  cases y with
  | bl b =>
    cases x with
    | bl a => simp only [RelD] at rx ry; exact .inl ⟨a, b, rx, ry, Out.here (d := D.bl (!decide (a = b))) r o (by simp [reD, RelD])⟩
    | _ => exact o.elim
  | non =>
    simp only [RelD] at ry
    subst ry
    refine .inr ⟨rfl, ?_⟩
    cases x with
    | non => simp only [RelD] at rx; subst rx; exact Out.here (d := D.bl (!true)) r o (by simp [reD, RelD])
    | bl a => simp only [RelD] at rx; subst rx; exact Out.here (d := D.bl (!false)) r o (by simp [reD, RelD])
    | int a => simp only [RelD] at rx; subst rx; exact Out.here (d := D.bl (!false)) r o (by simp [reD, RelD])
    | str a => simp only [RelD] at rx; subst rx; exact Out.here (d := D.bl (!false)) r o (by simp [reD, RelD])
    | fn a => simp only [RelD] at rx; subst rx; exact Out.here (d := D.bl (!false)) r o (by simp [reD, RelD])
    | tup a => simp only [RelD] at rx; obtain ⟨_, _, rfl, _⟩ := rx; exact Out.here (d := D.bl (!false)) r o (by simp [reD, RelD])
    | lst a => simp only [RelD] at rx; obtain ⟨_, _, rfl, _⟩ := rx; exact Out.here (d := D.bl (!false)) r o (by simp [reD, RelD])
    | loc a => simp only [RelD] at rx; obtain ⟨rfl, _⟩ := rx; exact Out.here (d := D.bl (!false)) r o (by simp [reD, RelD])
    | ty a => exact o.elim
  | _ => cases x <;> exact o.elim
end
end Fx

set_option Elab.async false
set_option linter.all false
set_option maxRecDepth 100000
set_option maxHeartbeats 4000000
namespace Fx
open PySem L2

section
variable {X : Cx} {W : WX} {e a b c o i : Expr} {es : List Expr} {m ma mb mc mo mi : SE} {ms : SA} {pos p : Pos} {x : Str}
/-! ### - and chains -/
def mNeg (m : SE) : SE := fun τ st => (m τ st).bind fun d st1 => match d with
  | .int i => .ok (.int (-i)) st1
  | _ => .no
theorem ev_neg (h : EvE X W a ma) : EvE X W (.UnaryOp .USub a pos) (mNeg ma) := PE.imp (pe_un un_neg h) fun σ H Q ⟨ρ, τ, st, r0, en, o⟩ =>
  tM.bind r0 en o fun d st1 ρ1 H1 v e1 r1 en1 q o1 => by
    cases d with
    | int i => simp only [RelD] at q; exact ⟨i, q, o1.here r1 (by simp [reD, RelD])⟩
    | _ => exact o1.elim
def mChain (f g : D → D → Store → Rs D) (ma mb mc : SE) : SE := fun τ st => (ma τ st).bind fun x st1 => (mb τ st1).bind fun y st2 => (f x y st2).bind fun z st3 => match z with
  | .bl true => (mc τ st3).bind fun u st4 => g y u st4
  | .bl false => .ok (.bl false) st3
  | _ => .no
theorem OpS.imp {g : Value → Value → Sem Value} {f : D → D → Store → Rs D} (ho : OpS X g f) : ∃ r, OpR X g r ∧ ∀ (W : WX) (σ : St) (ρ : Mp) (st : Store) (H : Hp) (x y : D) (vx vy : V) (Q : VK), R X.K ρ st H → RelD X.K ρ st.length H x vx → RelD X.K ρ st.length H y vy → Out X.K (reD X.K) W σ ρ st.length H Q (f x y st) → r vx vy H Q := ho
theorem tM.chain {op op' : CmpOp} {f g : D → D → Store → Rs D} {r r' : R2}
    (h2 : ∀ (W : WX) (σ : St) (ρ : Mp) (st : Store) (H : Hp) (x y : D) (vx vy : V) (Q : VK), R X.K ρ st H → RelD X.K ρ st.length H x vx → RelD X.K ρ st.length H y vy → Out X.K (reD X.K) W σ ρ st.length H Q (f x y st) → r vx vy H Q)
    (h3 : ∀ (W : WX) (σ : St) (ρ : Mp) (st : Store) (H : Hp) (x y : D) (vx vy : V) (Q : VK), R X.K ρ st H → RelD X.K ρ st.length H x vx → RelD X.K ρ st.length H y vy → Out X.K (reD X.K) W σ ρ st.length H Q (g x y st) → r' vx vy H Q)
    {σ : St} {H : Hp} {Q : VK} (h : tM X.K (reD X.K) W (mChain f g ma mb mc) σ H Q) : tChain r r' (tM X.K (reD X.K) W ma) (tM X.K (reD X.K) W mb) (tM X.K (reD X.K) W mc) σ H Q := by
  obtain ⟨ρ, τ, st, r0, en, o⟩ := h
  exact tM.bind r0 en o fun x st1 ρ1 H1 vx e1 r1 en1 qx o1 => tM.bind r1 en1 o1 fun y st2 ρ2 H2 vy e2 r2 en2 qy o2 =>
    h2 W σ ρ2 st2 H2 x y vx vy _ r2 (qx.mono e2 r1) qy (Out.bind r2 o2 fun z st3 ρ3 H3 vz e3 r3 qz o3 => by
      cases z with
      | bl k =>
        simp only [reD, RelD] at qz
        refine ⟨k, qz, ?_⟩
        cases k with
        | false => exact o3.here r3 (by simp [reD, RelD])
        | true =>
          rw [if_pos rfl]
          exact tM.bind r3 (en2.mono e3 r2) o3 fun u st4 ρ4 H4 vu e4 r4 en4 qu o4 => h3 W σ ρ4 st4 H4 y u vy vu Q r4 ((qy.mono e3 r2).mono e4 r3) qu o4
      | _ => exact o3.elim)
theorem ev_chain {op op' : CmpOp} {f g : D → D → Store → Rs D} (hf : OpS X (compareOp op) f) (hg : OpS X (compareOp op') g) (ha : EvE X W a ma) (hb : EvE X W b mb) (hc : EvE X W c mc) (hm : lastMarks [op, op'] [b, c] = false := by with_unfolding_all rfl) :
    EvE X W (.Compare a [op, op'] [b, c] pos) (mChain f g ma mb mc) := by
  obtain ⟨r, h1, h2⟩ := hf
  obtain ⟨r', h1', h2'⟩ := hg
  exact PE.imp (pe_chain h1 h1' ha hb hc hm) fun σ H Q h => tM.chain (op := op) (op' := op') h2 h2' h
theorem et_chain {op op' : CmpOp} {f g : D → D → Store → Rs D} (hf : OpS X (compareOp op) f) (hg : OpS X (compareOp op') g) (ha : EvE X W a ma) (hb : EvE X W b mb) (hc : EvE X W c mc) (hm : lastMarks [op, op'] [b, c] = false := by with_unfolding_all rfl) :
    EvB X W (.Compare a [op, op'] [b, c] pos) (mB (mChain f g ma mb mc)) := by
  obtain ⟨r, h1, h2⟩ := hf
  obtain ⟨r', h1', h2'⟩ := hg
  exact PT.imp (pt_chain h1 h1' ha hb hc hm) fun σ H Q h => tM.chain (op := op) (op' := op') h2 h2' (tM.tst h)

/-! ### calls of built-ins -/
abbrev FB (α : Type) := List D → Store → Rs α
def CallS {α : Type} (X : Cx) (Re : Rl α V) (f : Value) (fb : FB α) : Prop :=
  ∃ r, CallR X f r ∧ ∀ (W : WX) (σ : St) (ρ : Mp) (st : Store) (H : Hp) (ds : List D) (vs : List V) (Q : VK), R X.K ρ st H → RelDs X.K ρ st.length H ds vs → Out X.K Re W σ ρ st.length H Q (fb ds st) → r vs H Q
def mFn {α : Type} (fb : FB α) (ms : SA) : En → Store → Rs α := fun τ st => (ms τ st).bind fb
theorem ev_bf {α : Type} {Re : Rl α V} [RlOk X.K Re] {id : String} {fb : FB α} (hc : CallS X Re (.builtin id) fb) (hm : X.mg x = none) (hv : bootBuiltins x = some (.builtin id)) (ha : EvA X W (e :: es) ms) (hg : Gl X x := by rfl) (hn : x ≠ "__name__" := by decide) (hdb : (x == ("__debug__" : Str)) = false := by decide)
    (he : starEach (e :: es) X.env = (false, eval e X.env) :: starEach es X.env := by rfl) (hpl : (backTo pos (starEach es X.env)).any (·.1) = false := by rfl) : PE X (.Call (.Name x p) (e :: es) [] pos) (tM X.K Re W (mFn fb ms)) := by
  obtain ⟨r, h1, h2⟩ := hc
  exact PE.imp (pe_callB h1 hg hm hv ha hn hdb he hpl) fun σ H Q ⟨ρ, τ, st, r0, en, o⟩ => tM.bind r0 en o fun ds st1 ρ1 H1 vs e1 r1 en1 q o1 => h2 W σ ρ1 st1 H1 ds vs Q r1 q o1
theorem ev_bt {α : Type} {Re : Rl α V} [RlOk X.K Re] {id : String} {fb : FB α} (hc : CallS X Re (.type id) fb) (hm : X.mg x = none) (hv : bootBuiltins x = some (.type id)) (ha : EvA X W (e :: es) ms) (hg : Gl X x := by rfl) (hn : x ≠ "__name__" := by decide) (hdb : (x == ("__debug__" : Str)) = false := by decide)
    (he : starEach (e :: es) X.env = (false, eval e X.env) :: starEach es X.env := by rfl) (hpl : (backTo pos (starEach es X.env)).any (·.1) = false := by rfl) : PE X (.Call (.Name x p) (e :: es) [] pos) (tM X.K Re W (mFn fb ms)) := by
  obtain ⟨r, h1, h2⟩ := hc
  exact PE.imp (pe_callTy h1 hg hm hv ha hn hdb he hpl) fun σ H Q ⟨ρ, τ, st, r0, en, o⟩ => tM.bind r0 en o fun ds st1 ρ1 H1 vs e1 r1 en1 q o1 => h2 W σ ρ1 st1 H1 ds vs Q r1 q o1

theorem RelDs.one {K : PySem.W.Frag} {ρ : Mp} {n : Nat} {H : Hp} {d : D} {vs : List V} (h : RelDs K ρ n H [d] vs) : ∃ v, vs = [v] ∧ RelD K ρ n H d v := by
  obtain ⟨v, w, rfl, h1, h2⟩ := h.cases
  exact ⟨v, by rw [h2.nil_eq], h1⟩
theorem RelDs.two {K : PySem.W.Frag} {ρ : Mp} {n : Nat} {H : Hp} {d d2 : D} {vs : List V} (h : RelDs K ρ n H [d, d2] vs) : ∃ v v2, vs = [v, v2] ∧ RelD K ρ n H d v ∧ RelD K ρ n H d2 v2 := by
  obtain ⟨v, w, rfl, h1, h2⟩ := h.cases
  obtain ⟨v2, rfl, h3⟩ := h2.one
  exact ⟨v, v2, rfl, h1, h3⟩
noncomputable def fLen : FB D := fun ds st => match ds with
  | [.str z] => if szFits z.length = true then .ok (.int z.length) st else .no
  | [d] => (match seqOf d st with
    | some xs => .ok (.int xs.length) st
    | none => (match d with
      | .loc i => (match st[i]? with
        | some (.dk kvs) => .ok (.int kvs.length) st
        | _ => .no)
      | _ => .no))
  | _ => .no
theorem Paired.len {α β : Type} {F : α → β → Prop} : ∀ {l₁ : List α} {l₂ : List β}, Paired F l₁ l₂ → l₂.length = l₁.length
  | _, _, .nil => rfl
  | _, _, .cons _ t => by simp [Paired.len t]
theorem cs_len : CallS X (reD X.K) (.builtin "len") fLen := by
  refine ⟨_, (call_len_str.or call_len_seq).or call_lenD, fun W σ ρ st H ds vs Q r rv o => ?_⟩
  match ds, rv, o with
  | [d], rv, o =>
    obtain ⟨v, rfl, rd⟩ := rv.one
    by_cases hs : ∃ z, d = .str z
    · obtain ⟨z, rfl⟩ := hs
      simp only [RelD] at rd
      simp only [fLen] at o
      split at o
      · rename_i h; subst rd; exact .inl (.inl ⟨z, rfl, szFits_iff.mp h, o.here r (by simp [reD, RelD])⟩)
      · exact o.elim
    · have e : fLen [d] st = (match seqOf d st with
        | some xs => .ok (.int xs.length) st
        | none => (match d with
          | .loc i => (match st[i]? with
            | some (.dk kvs) => .ok (.int kvs.length) st
            | _ => .no)
          | _ => .no)) := by
        cases d <;> first | rfl | exact absurd ⟨_, rfl⟩ hs
      rw [e] at o
      cases q : seqOf d st with
      | some xs =>
        rw [q] at o
        obtain ⟨a, us, rfl, h, ru⟩ := seqOf_rel r rd q
        exact .inl (.inr ⟨a, us, rfl, h.imp id SqT.of, o.here r (by simp [reD, RelD, ru.len])⟩)
      | none =>
        rw [q] at o
        cases d with
        | loc i =>
          simp only at o
          cases q2 : st[i]? with
          | none => rw [q2] at o; exact o.elim
          | some ob =>
            rw [q2] at o
            cases ob with
            | dk kvs =>
              simp only [RelD] at rd
              obtain ⟨ws, hw, hp⟩ := r.obj i _ q2
              obtain ⟨rfl, _⟩ := rd
              exact .inr ⟨_, ws, rfl, hw, o.here r (by simp [reD, RelD, Paired.len hp])⟩
            | _ => exact o.elim
        | _ => exact o.elim
  | [], _, o => exact o.elim
  | _ :: _ :: _, _, o => simp [fLen] at o; exact o.elim
def fAbs : FB D := fun ds st => match ds with
  | [.int i] => .ok (.int (if i < 0 then -i else i)) st
  | _ => .no
theorem cs_abs : CallS X (reD X.K) (.builtin "abs") fAbs := by
  refine ⟨_, call_abs, fun W σ ρ st H ds vs Q r rv o => ?_⟩
  match ds, rv, o with
  | [.int i], rv, o =>
    obtain ⟨v, rfl, rd⟩ := rv.one
    simp only [RelD] at rd; subst rd
    exact ⟨i, rfl, o.here r (by simp [reD, RelD])⟩
  | [], _, o => exact o.elim
  | [.non], _, o | [.bl _], _, o | [.str _], _, o | [.ty _], _, o | [.fn _], _, o | [.tup _], _, o | [.lst _], _, o | [.loc _], _, o => exact o.elim
  | _ :: _ :: _, _, o => simp [fAbs] at o; exact o.elim
def fInt : FB D := fun ds st => match ds with
  | [.int i] => .ok (.int i) st
  | [.bl b] => .ok (.int (if b then 1 else 0)) st
  | _ => .no
theorem cs_int : CallS X (reD X.K) (.type "int") fInt := by
  refine ⟨_, call_int1, fun W σ ρ st H ds vs Q r rv o => ?_⟩
  match ds, rv, o with
  | [.int i], rv, o =>
    obtain ⟨v, rfl, rd⟩ := rv.one
    simp only [RelD] at rd; subst rd
    exact .inl ⟨i, rfl, o.here r (by simp [reD, RelD])⟩
  | [.bl i], rv, o =>
    obtain ⟨v, rfl, rd⟩ := rv.one
    simp only [RelD] at rd; subst rd
    exact .inr ⟨i, rfl, o.here r (by simp [reD, RelD])⟩
  | [], _, o => exact o.elim
  | [.non], _, o | [.str _], _, o | [.ty _], _, o | [.fn _], _, o | [.tup _], _, o | [.lst _], _, o | [.loc _], _, o => exact o.elim
  | _ :: _ :: _, _, o => simp [fInt] at o; exact o.elim
def fMin2 : FB D := fun ds st => match ds with
  | [.int i, .int j] => .ok (.int (if j < i then j else i)) st
  | _ => .no
def fMax2 : FB D := fun ds st => match ds with
  | [.int i, .int j] => .ok (.int (if j > i then j else i)) st
  | _ => .no
theorem two_ints {f : Int → Int → D} {ds : List D} {st : Store} {r : Rs D} (h : (match ds with
  | [.int i, .int j] => Rs.ok (f i j) st
  | _ => .no) = r) (hn : r ≠ .no) : ∃ i j, ds = [.int i, .int j] ∧ r = .ok (f i j) st := by
  split at h
  · exact ⟨_, _, rfl, h.symm⟩
  · exact absurd h.symm hn
theorem cs_min2 (hc : X.calm = true) : CallS X (reD X.K) (.builtin "min") fMin2 := by
  refine ⟨_, call_min2 hc, fun W σ ρ st H ds vs Q r rv o => ?_⟩
  obtain ⟨i, j, rfl, e⟩ := two_ints (f := fun i j => .int (if j < i then j else i)) (show fMin2 ds st = fMin2 ds st from rfl) (fun z => by rw [z] at o; exact o)
  rw [e] at o
  obtain ⟨v, v2, rfl, r1, r2⟩ := rv.two
  simp only [RelD] at r1 r2; subst r1; subst r2
  exact ⟨i, j, rfl, o.here r (by simp [reD, RelD])⟩
theorem cs_max2 (hc : X.calm = true) : CallS X (reD X.K) (.builtin "max") fMax2 := by
  refine ⟨_, call_max2 hc, fun W σ ρ st H ds vs Q r rv o => ?_⟩
  obtain ⟨i, j, rfl, e⟩ := two_ints (f := fun i j => .int (if j > i then j else i)) (show fMax2 ds st = fMax2 ds st from rfl) (fun z => by rw [z] at o; exact o)
  rw [e] at o
  obtain ⟨v, v2, rfl, r1, r2⟩ := rv.two
  simp only [RelD] at r1 r2; subst r1; subst r2
  exact ⟨i, j, rfl, o.here r (by simp [reD, RelD])⟩
/-- tuple(x), list(x) of a sequence -/
def fTuple : FB D := fun ds st => match ds with
  | [d] => (match seqOf d st with
    | some xs => .ok (.tup xs) st
    | none => .no)
  | _ => .no
def fList : FB (List D) := fun ds st => match ds with
  | [d] => (match seqOf d st with
    | some xs => .ok xs st
    | none => .no)
  | _ => .no
theorem one_seq {α : Type} {f : List D → α} {ds : List D} {st : Store} {r : Rs α} (h : (match ds with
  | [d] => (match seqOf d st with
    | some xs => Rs.ok (f xs) st
    | none => .no)
  | _ => .no) = r) (hn : r ≠ .no) : ∃ d xs, ds = [d] ∧ seqOf d st = some xs ∧ r = .ok (f xs) st := by
  split at h
  · split at h
    · exact ⟨_, _, rfl, by assumption, h.symm⟩
    · exact absurd h.symm hn
  · exact absurd h.symm hn
theorem cs_tuple : CallS X (reD X.K) (.type "tuple") fTuple := by
  refine ⟨_, call_tuple_of, fun W σ ρ st H ds vs Q r rv o => ?_⟩
  obtain ⟨d, xs, rfl, hx, e⟩ := one_seq (f := D.tup) (show fTuple ds st = fTuple ds st from rfl) (fun z => by rw [z] at o; exact o)
  rw [e] at o
  obtain ⟨v, rfl, rd⟩ := rv.one
  obtain ⟨a, us, rfl, h, ru⟩ := seqOf_rel r rd hx
  rcases h with h | h
  · refine ⟨a, us, rfl, .inl ⟨h, fun l hl => o.free r hl ?_⟩⟩
    simp only [reD, RelD]
    exact ⟨l, us, rfl, upd_same, RelDs.mono (r.push_ext hl) r _ ru⟩
  · exact ⟨a, us, rfl, .inr ⟨SqT.of h, o.here r (by simp only [reD, RelD]; exact ⟨a, us, rfl, h, ru⟩)⟩⟩
theorem Out.fresh' {K : PySem.W.Frag} {ρ : Mp} {st : Store} {H : Hp} {σ : St} {Q : VK} {p : Addr} {ds : List D} {vs : List V} (r0 : R K ρ st H) (h : Out K (reN K) W σ ρ st.length H Q (.ok ds st)) (hp : H p = none) (q : RelDs K ρ st.length H ds vs) : Q (.ref p) (upd H p (.lst vs)) := Out.fresh r0 h hp q
theorem cs_list : CallS X (reN X.K) (.type "list") fList := by
  refine ⟨_, call_list_of, fun W σ ρ st H ds vs Q r rv o => ?_⟩
  obtain ⟨d, xs, rfl, hx, e⟩ := one_seq (f := id) (show fList ds st = fList ds st from rfl) (fun z => by rw [z] at o; exact o)
  rw [e] at o
  obtain ⟨v, rfl, rd⟩ := rv.one
  obtain ⟨a, us, rfl, h, ru⟩ := seqOf_rel r rd hx
  exact ⟨a, us, rfl, h.imp id SqT.of, fun l hl => Out.fresh r o hl ru⟩
/-! lists of ints, of bools -/
def intsOf : List D → Option (List Int)
  | [] => some []
  | .int i :: r => (intsOf r).map (i :: ·)
  | _ :: _ => none
def blsOf : List D → Option (List Bool)
  | [] => some []
  | .bl i :: r => (blsOf r).map (i :: ·)
  | _ :: _ => none
theorem intsOf_eq : ∀ {ds : List D} {ns : List Int}, intsOf ds = some ns → ds = ns.map D.int
  | [], ns, h => by simp [intsOf] at h; subst h; rfl
  | d :: r, ns, h => by
    cases d with
    | int i =>
      simp only [intsOf] at h
      cases e : intsOf r with
      | none => rw [e] at h; cases h
      | some ms => rw [e] at h; cases h; rw [intsOf_eq e]; rfl
    | _ => cases h
theorem blsOf_eq : ∀ {ds : List D} {ns : List Bool}, blsOf ds = some ns → ds = ns.map D.bl
  | [], ns, h => by simp [blsOf] at h; subst h; rfl
  | d :: r, ns, h => by
    cases d with
    | bl i =>
      simp only [blsOf] at h
      cases e : blsOf r with
      | none => rw [e] at h; cases h
      | some ms => rw [e] at h; cases h; rw [blsOf_eq e]; rfl
    | _ => cases h
@[simp] theorem intsOf_map (ns : List Int) : intsOf (ns.map D.int) = some ns := by
  induction ns with
  | nil => rfl
  | cons n r ih => simp [intsOf, ih]
@[simp] theorem blsOf_map (ns : List Bool) : blsOf (ns.map D.bl) = some ns := by
  induction ns with
  | nil => rfl
  | cons n r ih => simp [blsOf, ih]
def onBls (f : List Bool → D) : FB D := fun ds st => match ds with
  | [d] => (match listOf d st with
    | some xs => (match blsOf xs with
      | some bs => .ok (f bs) st
      | none => .no)
    | none => .no)
  | _ => .no
def onInts {α : Type} (f : List Int → α) : FB α := fun ds st => match ds with
  | [d] => (match listOf d st with
    | some xs => (match intsOf xs with
      | some bs => .ok (f bs) st
      | none => .no)
    | none => .no)
  | _ => .no
theorem onBls_ok {f : List Bool → D} {ds : List D} {st : Store} (hn : onBls f ds st ≠ .no) : ∃ d bs, ds = [d] ∧ listOf d st = some (bs.map D.bl) ∧ onBls f ds st = .ok (f bs) st := by
  unfold onBls at hn ⊢
  split
  · split
    · split
      · rename_i h1 _ _ h2; exact ⟨_, _, rfl, by rw [h1, blsOf_eq h2], rfl⟩
      · rename_i h1 _ h2; simp [h1, h2] at hn
    · rename_i h1; simp [h1] at hn
  · rename_i h; split at hn
    · exact absurd rfl (h _)
    · exact absurd rfl hn
theorem onInts_ok {α : Type} {f : List Int → α} {ds : List D} {st : Store} (hn : onInts f ds st ≠ .no) : ∃ d bs, ds = [d] ∧ listOf d st = some (bs.map D.int) ∧ onInts f ds st = .ok (f bs) st := by
  unfold onInts at hn ⊢
  split
  · split
    · split
      · rename_i h1 _ _ h2; exact ⟨_, _, rfl, by rw [h1, intsOf_eq h2], rfl⟩
      · rename_i h1 _ h2; simp [h1, h2] at hn
    · rename_i h1; simp [h1] at hn
  · rename_i h; split at hn
    · exact absurd rfl (h _)
    · exact absurd rfl hn
theorem cs_all (hc : X.calm = true) : CallS X (reD X.K) (.builtin "all") (onBls fun bs => .bl (bs.all id)) := by
  refine ⟨_, cr_all hc, fun W σ ρ st H ds vs Q r rv o => ?_⟩
  obtain ⟨d, bs, rfl, hx, e⟩ := onBls_ok (fun z => by rw [z] at o; exact o)
  rw [e] at o
  obtain ⟨v, rfl, rd⟩ := rv.one
  obtain ⟨a, us, rfl, h, ru⟩ := listOf_rel r rd hx
  rw [ru.bls] at h
  exact ⟨a, bs, rfl, h, o.here r (by simp [reD, RelD])⟩
theorem cs_any (hc : X.calm = true) : CallS X (reD X.K) (.builtin "any") (onBls fun bs => .bl (bs.any id)) := by
  refine ⟨_, cr_any hc, fun W σ ρ st H ds vs Q r rv o => ?_⟩
  obtain ⟨d, bs, rfl, hx, e⟩ := onBls_ok (fun z => by rw [z] at o; exact o)
  rw [e] at o
  obtain ⟨v, rfl, rd⟩ := rv.one
  obtain ⟨a, us, rfl, h, ru⟩ := listOf_rel r rd hx
  rw [ru.bls] at h
  exact ⟨a, bs, rfl, h, o.here r (by simp [reD, RelD])⟩
theorem cs_sum (hc : X.calm = true) : CallS X (reD X.K) (.builtin "sum") (onInts fun ns => .int ns.sum) := by
  refine ⟨_, cr_sum hc, fun W σ ρ st H ds vs Q r rv o => ?_⟩
  obtain ⟨d, bs, rfl, hx, e⟩ := onInts_ok (fun z => by rw [z] at o; exact o)
  rw [e] at o
  obtain ⟨v, rfl, rd⟩ := rv.one
  obtain ⟨a, us, rfl, h, ru⟩ := listOf_rel r rd hx
  rw [ru.ints] at h
  exact ⟨a, bs, rfl, h, o.here r (by simp [reD, RelD])⟩
/-- the ints in order -/
def insI (n : Int) : List Int → List Int
  | [] => [n]
  | m :: r => if n ≤ m then n :: m :: r else m :: insI n r
def sortI : List Int → List Int
  | [] => []
  | n :: r => insI n (sortI r)
theorem insI_perm (n : Int) : ∀ l : List Int, (insI n l).Perm (n :: l)
  | [] => .refl _
  | m :: r => by
    unfold insI
    split
    · exact .refl _
    · exact ((insI_perm n r).cons m).trans (.swap n m r)
theorem sortI_perm : ∀ l : List Int, (sortI l).Perm l
  | [] => .refl _
  | n :: r => (insI_perm n (sortI r)).trans ((sortI_perm r).cons n)
theorem insI_sorted (n : Int) : ∀ {l : List Int}, l.Pairwise (· ≤ ·) → (insI n l).Pairwise (· ≤ ·)
  | [], _ => List.pairwise_singleton _ _
  | m :: r, h => by
    unfold insI
    split
    · rename_i hnm
      refine List.pairwise_cons.mpr ⟨fun x hx => ?_, h⟩
      rcases List.mem_cons.mp hx with rfl | hx
      · exact hnm
      · exact Int.le_trans hnm ((List.pairwise_cons.mp h).1 x hx)
    · rename_i hnm
      refine List.pairwise_cons.mpr ⟨fun x hx => ?_, insI_sorted n (List.pairwise_cons.mp h).2⟩
      rcases List.mem_cons.mp ((insI_perm n r).mem_iff.mp hx) with rfl | hx
      · omega
      · exact (List.pairwise_cons.mp h).1 x hx
theorem sortI_sorted : ∀ l : List Int, (sortI l).Pairwise (· ≤ ·)
  | [] => .nil
  | n :: r => insI_sorted n (sortI_sorted r)
theorem sorted_uniq : ∀ {l l' : List Int}, l.Perm l' → l.Pairwise (· ≤ ·) → l'.Pairwise (· ≤ ·) → l = l'
  | [], l', p, _, _ => by rw [List.nil_perm] at p; exact p.symm
  | x :: r, l', p, h, h' => by
    cases l' with
    | nil => exact absurd p.length_eq (by simp)
    | cons y s =>
      have hx : x ∈ y :: s := p.mem_iff.mp List.mem_cons_self
      have hy : y ∈ x :: r := p.mem_iff.mpr List.mem_cons_self
      have e : x = y := by
        rcases List.mem_cons.mp hx with e | hx
        · exact e
        · rcases List.mem_cons.mp hy with e | hy
          · exact e.symm
          · exact Int.le_antisymm ((List.pairwise_cons.mp h).1 y hy) ((List.pairwise_cons.mp h').1 x hx)
      subst e
      rw [sorted_uniq (List.Perm.cons_inv p) (List.pairwise_cons.mp h).2 (List.pairwise_cons.mp h').2]
theorem cs_sorted : CallS X (reN X.K) (.builtin "sorted") (onInts fun ns => (sortI ns).map D.int) := by
  refine ⟨_, cr_sortedI, fun W σ ρ st H ds vs Q r rv o => ?_⟩
  obtain ⟨d, bs, rfl, hx, e⟩ := onInts_ok (fun z => by rw [z] at o; exact o)
  rw [e] at o
  obtain ⟨v, rfl, rd⟩ := rv.one
  obtain ⟨a, us, rfl, h, ru⟩ := listOf_rel r rd hx
  rw [ru.ints] at h
  refine ⟨a, bs, rfl, h, fun ns' p h1 h2 hp => ?_⟩
  have e' : ns' = sortI bs := sorted_uniq (h1.trans (sortI_perm bs).symm) h2 (sortI_sorted bs)
  subst e'
  exact Out.fresh r o hp RelDs.ints'
end
end Fx

set_option Elab.async false
set_option linter.all false
set_option maxRecDepth 100000
set_option maxHeartbeats 4000000
namespace Fx
open PySem L2

section
variable {X : Cx} {W : WX} {e a b c o i value : Expr} {es : List Expr} {m ma mb mc mo mi mv : SE} {ms : SA} {pos p pos' apos cpos : Pos} {x : Str}
/-! ### x[i] -/
noncomputable def fIx : D → D → Store → Rs D := fun x y st => match y with
  | .int k => (match seqOf x st with
    | some xs => (match atI xs k with
      | some d => .ok d st
      | none => .no)
    | none => (match x with
      | .str z => if szFits z.length = true then (match atI z.cps.toList k with
        | some c => .ok (.str ⟨#[c]⟩) st
        | none => .no) else .no
      | _ => .no))
  | _ => .no
theorem RelDs.atI {K : PySem.W.Frag} {ρ : Mp} {n : Nat} {H : Hp} {ds : List D} {vs : List V} (h : RelDs K ρ n H ds vs) {k : Int} {d : D} (e : L2.atI ds k = some d) : ∃ v, L2.atI vs k = some v ∧ RelD K ρ n H d v := by
  unfold L2.atI at e ⊢
  rw [h.len]
  cases q : ixN ds.length k with
  | none => rw [q] at e; cases e
  | some j => rw [q] at e; simp only [Option.bind_some] at e ⊢; exact h.get e
theorem ev_ix (ha : EvE X W a ma) (hb : EvE X W b mb) (hs : PlainIx b := by exact fun _ _ => rfl) : EvE X W (.Subscript a b pos) (mOp fIx ma mb) := PE.imp (pe_ix ix_seq ha hb hs) fun σ H Q h =>
  tM.op (X := X) (W := W) (fun W σ ρ st H x y vx vy Q r rx ry o => by
    cases y with
    | int k =>
      simp only [RelD] at ry
      subst ry
      simp only [fIx] at o
      cases q : seqOf x st with
      | some xs =>
        rw [q] at o
        simp only at o
        cases q2 : L2.atI xs k with
        | none => rw [q2] at o; exact o.elim
        | some d =>
          rw [q2] at o
          obtain ⟨p, us, rfl, h, ru⟩ := seqOf_rel r rx q
          obtain ⟨v, h1, h2⟩ := ru.atI q2
          rcases h with h | h
          · exact .inl ⟨p, us, k, v, rfl, rfl, h, h1, o.here r h2⟩
          · exact .inr (.inl ⟨p, us, k, v, rfl, rfl, SqT.of h, h1, o.here r h2⟩)
      | none =>
        rw [q] at o
        cases x with
        | str z =>
          simp only at o
          split at o
          · rename_i hz
            cases q2 : L2.atI z.cps.toList k with
            | none => rw [q2] at o; exact o.elim
            | some c =>
              rw [q2] at o
              simp only [RelD] at rx
              exact .inr (.inr ⟨z, k, c, rx, rfl, (szFits_iff.mp hz), q2, o.here r (by simp [reD, RelD])⟩)
          · exact o.elim
        | _ => exact o.elim
    | _ => exact o.elim) h

/-! ### slices -/
abbrev reO : Rl (Option Int) (Option Int) := fun _ _ _ _ a b => a = b
instance {K : PySem.W.Frag} : RlOk K reO := ⟨fun _ _ h => h⟩
abbrev SO := En → Store → Rs (Option Int)
abbrev EvO (X : Cx) (W : WX) (e : Option Expr) (m : SO) : Prop := PO X e (tM X.K reO W m)
def mNoPart : SO := fun _ st => .ok none st
def mPart (m : SE) : SO := fun τ st => (m τ st).bind fun d st1 => match d with
  | .int i => .ok (some i) st1
  | _ => .no
theorem PO.imp {e : Option Expr} {t t' : St → Hp → (Option Int → Hp → Prop) → Prop} (h : PO X e t) (hi : ∀ σ H Q, t' σ H Q → t σ H Q) : PO X e t' := ⟨fun pins s σ H Q I q => h.run pins s σ H Q I (hi _ _ _ q)⟩
theorem eo_none : EvO X W none mNoPart := PO.imp po_none fun σ H Q ⟨ρ, τ, st, r0, en, o⟩ => o.here r0 rfl
theorem eo_some (h : EvE X W e m) : EvO X W (some e) (mPart m) := PO.imp (po_some h) fun σ H Q ⟨ρ, τ, st, r0, en, o⟩ =>
  tM.bind r0 en o fun d st1 ρ1 H1 v e1 r1 en1 q o1 => by
    cases d with
    | int k => simp only [RelD] at q; exact ⟨k, q, o1.here r1 rfl⟩
    | _ => exact o1.elim
def cutD (xs : List D) (lo hi : Option Int) : List D := (xs.drop (HT.sIx xs.length 0 lo)).take (HT.sIx xs.length xs.length hi - HT.sIx xs.length 0 lo)
theorem RelDs.cut {K : PySem.W.Frag} {ρ : Mp} {n : Nat} {H : Hp} {ds : List D} {vs : List V} (h : RelDs K ρ n H ds vs) (lo hi : Option Int) : RelDs K ρ n H (cutD ds lo hi) (cutV vs lo hi) := by
  unfold cutD cutV
  rw [h.len]
  exact (h.drop _).take _
/-- a slice: of a tuple a tuple, of a list a list that is only read -/
def fSl (x : D) (lo hi : Option Int) (st : Store) : Rs D := match x with
  | .tup xs => .ok (.tup (cutD xs lo hi)) st
  | x => (match listOf x st with
    | some xs => .ok (.lst (cutD xs lo hi)) st
    | none => .no)
def mSl (f : D → Option Int → Option Int → Store → Rs D) (m : SE) (ml mh : SO) : SE := fun τ st => (m τ st).bind fun d st1 => (ml τ st1).bind fun lo st2 => (mh τ st2).bind fun hi st3 => f d lo hi st3
theorem ev_sl {lo hi : Option Expr} {ml mh : SO} (ha : EvE X W a ma) (hl : EvO X W lo ml) (hh : EvO X W hi mh) : EvE X W (.Subscript a (.Slice lo hi none p) pos) (mSl fSl ma ml mh) :=
  PE.imp (pe_slice (sl_tupA.or sl_list) ha hl hh) fun σ H Q ⟨ρ, τ, st, r0, en, o⟩ => tM.bind r0 en o fun d st1 ρ1 H1 v e1 r1 en1 q o1 => tM.bind r1 en1 o1 fun l st2 ρ2 H2 l' e2 r2 en2 q2 o2 => tM.bind r2 en2 o2 fun h st3 ρ3 H3 h' e3 r3 en3 q3 o3 => by
    cases (show l = l' from q2)
    cases (show h = h' from q3)
    have q' := (q.mono e2 r1).mono e3 r2
    have gen : ∀ {xs : List D}, listOf d st3 = some xs → Out X.K (reD X.K) W σ ρ3 st3.length H3 Q (.ok (.lst (cutD xs l h)) st3) → rSlL X.K v l h H3 Q := fun {xs} hx ox => by
      obtain ⟨p, us, rfl, hs, ru⟩ := listOf_rel r3 q' hx
      refine ⟨p, us, rfl, hs, fun y hy => ox.free r3 hy ?_⟩
      simp only [reD, RelD]
      exact ⟨y, _, rfl, .inl ⟨.inl upd_same, r3.ne_none hy, r3.nh_none hy⟩, RelDs.mono (r3.push_ext hy) r3 _ (ru.cut l h)⟩
    cases d with
    | tup xs =>
      simp only [fSl] at o3
      simp only [RelD] at q'
      obtain ⟨p, us, rfl, hs, ru⟩ := q'
      refine .inl ⟨p, us, rfl, SqT.of hs, fun hw => o3.here r3 ?_, fun hw y hy => o3.free r3 hy ?_⟩
      · simp only [reD, RelD]
        have e : cutD xs l h = xs := by
          unfold cutD
          rw [ru.len] at hw
          rw [hw.1, hw.2]
          simp
        rw [e]
        exact ⟨p, us, rfl, hs, ru⟩
      · simp only [reD, RelD]
        exact ⟨y, _, rfl, upd_same, RelDs.mono (r3.push_ext hy) r3 _ (ru.cut l h)⟩
    | lst xs => exact .inr (gen (xs := xs) rfl o3)
    | loc k =>
      simp only [fSl] at o3
      cases e : listOf (.loc k) st3 with
      | none => rw [e] at o3; exact o3.elim
      | some xs => rw [e] at o3; exact .inr (gen e o3)
    | _ => exact o3.elim
/-- xs[::-1] of a list, as a list that is only read -/
def mRevL (m : SE) : SA := fun τ st => (m τ st).bind fun d st1 => match listOf d st1 with
  | some xs => .ok xs.reverse st1
  | none => .no
theorem ef_revL {k : Nat} {p1 p2 p3 : Pos} (ha : EvE X W a ma) : EvF X W (.Subscript a (.Slice none none (some (.UnaryOp .USub (.Constant (.int 1) k p1) p2)) p3) pos) (mRevL ma) :=
  PE.imp (pe_revL ha) fun σ H Q ⟨ρ, τ, st, r0, en, o⟩ => tM.bind r0 en o fun d st1 ρ1 H1 v e1 r1 en1 q o1 => by
    cases e : listOf d st1 with
    | none => rw [e] at o1; exact o1.elim
    | some xs =>
      rw [e] at o1
      obtain ⟨p, us, rfl, hs, ru⟩ := listOf_rel r1 q e
      exact ⟨p, us, rfl, hs, fun y hy => Out.fresh r1 o1 hy ru.reverse⟩

/-! ### xs[i] = v -/
def fSetL (ob k d : D) (st : Store) : Option Store := match ob, k with
  | .loc n, .int k => (match st[n]? with
    | some (.lst xs) => (match ixN xs.length k with
      | some j => some (st.set n (.lst (xs.set j d)))
      | none => none)
    | _ => none)
  | _, _ => none
def sSub (f : D → D → D → Store → Option Store) (mo mi m : SE) : SS := fun τ st => (m τ st).go τ fun d st1 => (mo τ st1).go τ fun ob st2 => (mi τ st2).go τ fun k st3 => match f ob k d st3 with
  | some st4 => .nx τ st4
  | none => .no
theorem setL_ok {K : PySem.W.Frag} {ρ : Mp} {st st' : Store} {H : Hp} {ob k d : D} {vo vk vd : V} (r : R K ρ st H) (ro : RelD K ρ st.length H ob vo) (rk : RelD K ρ st.length H k vk) (rd : RelD K ρ st.length H d vd) (h : fSetL ob k d st = some st') {Q : Hp → Prop}
    (q : ∀ H', Ext ρ st.length H ρ st'.length H' → R K ρ st' H' → Q H') : rSetL vo vk vd H Q := by
  cases ob with
  | loc n =>
    cases k with
    | int k =>
      simp only [fSetL] at h
      cases e : st[n]? with
      | none => rw [e] at h; cases h
      | some ob =>
        rw [e] at h
        cases ob with
        | lst xs =>
          simp only at h
          cases e2 : ixN xs.length k with
          | none => rw [e2] at h; cases h
          | some j =>
            rw [e2] at h
            cases h
            obtain ⟨hl, rfl, vs, hv, rv⟩ := loc_rel r ro e
            simp only [RelD] at rk
            subst rk
            refine ⟨_, vs, k, j, rfl, rfl, hv, by rw [rv.len]; exact e2, q _ ?_ (r.set hl ⟨_, upd_same, ?_⟩)⟩
            · rw [List.length_set]; exact r.set_ext hl
            · exact RelDs.mono (r.set_ext hl) r _ (rv.set rd j)
        | _ => cases h
    | _ => cases h
  | _ => cases h
theorem es_sub (ho : EvE X W o mo) (hi : EvE X W i mi) (hv : EvE X W value mv) (hs : swapsWithSole [.Subscript o i pos'] value pos.line X.env = pure false := by rfl) (hw : swappedStores [.Subscript o i pos'] value X.env = pure none := by rfl)
    (h1 : (assignEach [.Subscript o i pos'] X.env).map (·.2) = [assign (.Subscript o i pos') X.env] := by rfl)
    (ha : ∀ v, assign (.Subscript o i pos') X.env v = (do
      let ov ← holding [v] (eval o X.env)
      let iv ← holding [v, ov] (eval i X.env)
      standAt pos'
      holding [v, ov, iv] (setItem ov iv v)
      release [v, ov, iv] []) := by intro _; rfl) : EvS X W (.Assign [.Subscript o i pos'] value pos) (sSub fSetL mo mi mv) :=
  PS.imp (ps_asg hv (pg_sub ho hi set_list ha) hs hw h1) fun D σ H ⟨ρ, τ, st, r0, en, oo⟩ => tM.goS r0 en oo fun d st1 ρ1 H1 v e1 r1 en1 q o1 => tM.goS r1 en1 o1 fun ob st2 ρ2 H2 vo e2 r2 en2 q2 o2 => tM.goS r2 en2 o2 fun k st3 ρ3 H3 vk e3 r3 en3 q3 o3 => by
    cases e : fSetL ob k d st3 with
    | none => rw [e] at o3; exact o3.elim
    | some st4 =>
      rw [e] at o3
      exact setL_ok r3 (q2.mono e3 r2) q3 ((q.mono e2 r1).mono e3 r2) e fun H' ex r4 => o3 ρ3 H' σ ex r4 (en3.mono ex r3)

/-! ### dicts -/
def keyOf : D → Option Key
  | .int i => some (.inl i)
  | .str x => some (.inr x)
  | _ => none
def keysOf : List D → Option (List Key)
  | [] => some []
  | d :: r => match keyOf d, keysOf r with
    | some k, some ks => some (k :: ks)
    | _, _ => none
theorem keyOf_rel {K : PySem.W.Frag} {ρ : Mp} {n : Nat} {H : Hp} {d : D} {v : V} {k : Key} (h : RelD K ρ n H d v) (e : keyOf d = some k) : v = kV k := by
  cases d with
  | int i => simp only [RelD] at h; cases e; exact h
  | str i => simp only [RelD] at h; cases e; exact h
  | _ => cases e
theorem keysOf_rel {K : PySem.W.Frag} {ρ : Mp} {n : Nat} {H : Hp} : ∀ {ds : List D} {vs : List V} {ks : List Key}, RelDs K ρ n H ds vs → keysOf ds = some ks → vs = ks.map kV
  | [], vs, ks, h, e => by simp [keysOf] at e; subst e; exact h.nil_eq
  | d :: r, vs, ks, h, e => by
    obtain ⟨v, w, rfl, h1, h2⟩ := h.cases
    simp only [keysOf] at e
    cases q : keyOf d with
    | none => rw [q] at e; cases e
    | some k =>
      cases q2 : keysOf r with
      | none => rw [q, q2] at e; cases e
      | some ks' =>
        rw [q, q2] at e
        cases e
        rw [keyOf_rel h1 q, keysOf_rel h2 q2]; rfl
section
variable {κ : Type} [DecidableEq κ]
def valD (kvs : List (κ × D)) (k : κ) : Option D := (kvs.find? fun kv => decide (kv.1 = k)).map (·.2)
def putD (kvs : List (κ × D)) (k : κ) (v : D) : List (κ × D) :=
  if (kvs.any fun kv => decide (kv.1 = k)) = true then kvs.map (fun kv => if kv.1 = k then (kv.1, v) else kv) else kvs ++ [(k, v)]
variable {K : PySem.W.Frag} {ρ : Mp} {n : Nat} {H : Hp}
abbrev PairR (K : PySem.W.Frag) (ρ : Mp) (n : Nat) (H : Hp) : List (κ × D) → List (κ × V) → Prop := Paired fun p q => p.1 = q.1 ∧ RelD K ρ n H p.2 q.2
theorem PairR.val {kvs : List (κ × D)} {ws : List (κ × V)} (h : PairR K ρ n H kvs ws) (k : κ) : (valD kvs k = none ∧ valV ws k = none) ∨ ∃ d v, valD kvs k = some d ∧ valV ws k = some v ∧ RelD K ρ n H d v := by
  induction h with
  | nil => exact .inl ⟨rfl, rfl⟩
  | @cons p q l₁ l₂ h t ih =>
    by_cases e : p.1 = k
    · refine .inr ⟨p.2, q.2, ?_, valV_pos (h.1.symm.trans e), h.2⟩
      unfold valD; rw [List.find?_cons, decide_eq_true e]; rfl
    · have e' : ¬ q.1 = k := fun z => e (h.1.trans z)
      rw [valV_neg e']
      have : valD (p :: l₁) k = valD l₁ k := by unfold valD; rw [List.find?_cons, decide_eq_false e]
      rw [this]; exact ih
theorem PairR.any {kvs : List (κ × D)} {ws : List (κ × V)} (h : PairR K ρ n H kvs ws) (k : κ) : (kvs.any fun kv => decide (kv.1 = k)) = (ws.any fun kv => decide (kv.1 = k)) := by
  induction h with
  | nil => rfl
  | cons h t ih => rw [List.any_cons, List.any_cons, ih, h.1]
theorem PairR.snoc {kvs : List (κ × D)} {ws : List (κ × V)} (h : PairR K ρ n H kvs ws) {k : κ} {d : D} {v : V} (r : RelD K ρ n H d v) : PairR K ρ n H (kvs ++ [(k, d)]) (ws ++ [(k, v)]) := by
  induction h with
  | nil => exact .cons ⟨rfl, r⟩ .nil
  | cons h t ih => exact .cons h ih
theorem PairR.map {kvs : List (κ × D)} {ws : List (κ × V)} (h : PairR K ρ n H kvs ws) {k : κ} {d : D} {v : V} (r : RelD K ρ n H d v) :
    PairR K ρ n H (kvs.map fun kv => if kv.1 = k then (kv.1, d) else kv) (ws.map fun kv => if kv.1 = k then (kv.1, v) else kv) := by
  induction h with
  | nil => exact .nil
  | @cons p q l₁ l₂ h t ih =>
    refine .cons ?_ ih
    show (if p.1 = k then (p.1, d) else p).1 = (if q.1 = k then (q.1, v) else q).1 ∧ RelD K ρ n H (if p.1 = k then (p.1, d) else p).2 (if q.1 = k then (q.1, v) else q).2
    by_cases e : p.1 = k
    · rw [if_pos e, if_pos (h.1.symm.trans e)]; exact ⟨h.1, r⟩
    · rw [if_neg e, if_neg (fun z => e (h.1.trans z))]; exact h
theorem PairR.put {kvs : List (κ × D)} {ws : List (κ × V)} (h : PairR K ρ n H kvs ws) {k : κ} {d : D} {v : V} (r : RelD K ρ n H d v) : PairR K ρ n H (putD kvs k d) (putK ws k v) := by
  unfold putD putK
  rw [h.any k]
  split
  · exact h.map r
  · exact h.snoc r
end
/-- d[k], where it is there -/
def dGet (ob k : D) (st : Store) : Option (Option D) := match ob with
  | .loc n => (match st[n]? with
    | some (.dk kvs) => (match keyOf k with
      | some q => some (valD kvs q)
      | none => none)
    | some (.dt kvs) => (match k with
      | .tup ks => (match keysOf ks with
        | some q => some (valD kvs q)
        | none => none)
      | _ => none)
    | _ => none)
  | _ => none
theorem dGet_rel {K : PySem.W.Frag} {ρ : Mp} {st : Store} {H : Hp} {ob k : D} {vo vk : V} {res : Option D} (r : R K ρ st H) (ro : RelD K ρ st.length H ob vo) (rk : RelD K ρ st.length H k vk) (h : dGet ob k st = some res) :
    ∃ a w, vo = .ref a ∧ DGet H a vk w ∧ ((res = none ∧ w = none) ∨ ∃ d v, res = some d ∧ w = some v ∧ RelD K ρ st.length H d v) := by
  cases ob with
  | loc n =>
    simp only [dGet] at h
    simp only [RelD] at ro
    obtain ⟨rfl, hl⟩ := ro
    cases e : st[n]? with
    | none => rw [e] at h; cases h
    | some ob =>
      rw [e] at h
      cases ob with
      | dk kvs =>
        simp only at h
        cases q : keyOf k with
        | none => rw [q] at h; cases h
        | some kk =>
          rw [q] at h
          cases h
          obtain ⟨ws, hw, hp⟩ := r.obj n _ e
          rw [keyOf_rel rk q]
          refine ⟨_, valV ws kk, rfl, DGet.k hw, ?_⟩
          rcases PairR.val hp kk with ⟨h1, h2⟩ | ⟨d, v, h1, h2, h3⟩
          · exact .inl ⟨h1, h2⟩
          · exact .inr ⟨d, v, h1, h2, h3⟩
      | dt kvs =>
        cases k with
        | tup ks =>
          simp only at h
          cases q : keysOf ks with
          | none => rw [q] at h; cases h
          | some kk =>
            rw [q] at h
            cases h
            obtain ⟨ws, hw, hp⟩ := r.obj n _ e
            simp only [RelD] at rk
            obtain ⟨b, us, rfl, hb, ru⟩ := rk
            rw [keysOf_rel ru q] at hb
            refine ⟨_, valV ws kk, rfl, DGet.t hw hb, ?_⟩
            rcases PairR.val hp kk with ⟨h1, h2⟩ | ⟨d, v, h1, h2, h3⟩
            · exact .inl ⟨h1, h2⟩
            · exact .inr ⟨d, v, h1, h2, h3⟩
        | _ => cases h
      | lst xs => cases h
  | _ => cases h
def fDGet : D → D → Store → Rs D := fun ob k st => match dGet ob k st with
  | some (some d) => .ok d st
  | _ => .no
def fDIn (b : Bool) : D → D → Store → Rs D := fun k ob st => match dGet ob k st with
  | some (some _) => .ok (.bl b) st
  | some none => .ok (.bl (!b)) st
  | none => .no
theorem ev_dget (hu : X.A.units + 1 < cLine) (ho : EvE X W o mo) (hi : EvE X W i mi) (hs : NoSl i := by exact fun _ _ => rfl) : EvE X W (.Subscript o i pos) (mOp fDGet mo mi) := PE.imp (pe_dget hu ho hi hs) fun σ H Q ⟨ρ, τ, st, r0, en, oo⟩ =>
  tM.bind r0 en oo fun ob st1 ρ1 H1 vo e1 r1 en1 q o1 => tM.bind r1 en1 o1 fun k st2 ρ2 H2 vk e2 r2 en2 q2 o2 => by
    simp only [fDGet] at o2
    cases e : dGet ob k st2 with
    | none => rw [e] at o2; exact o2.elim
    | some res =>
      rw [e] at o2
      obtain ⟨a, w, rfl, g, z⟩ := dGet_rel r2 (q.mono e2 r1) q2 e
      rcases z with ⟨rfl, rfl⟩ | ⟨d, v, rfl, rfl, rd⟩
      · exact o2.elim
      · exact ⟨a, v, rfl, g, o2.here r2 rd⟩
theorem tM.din {bb : Bool} {σ : St} {H : Hp} {Q : VK} (h : tM X.K (reD X.K) W (mOp (fDIn bb) mi mo) σ H Q) :
    tM X.K (reD X.K) W mi σ H fun y H1 => tM X.K (reD X.K) W mo σ H1 fun x H2 => ∃ a o, x = .ref a ∧ DGet H2 a y o ∧ Q (.bl (if bb = true then o.isSome else !o.isSome)) H2 := by
  obtain ⟨ρ, τ, st, r0, en, oo⟩ := h
  exact tM.bind r0 en oo fun k st1 ρ1 H1 vk e1 r1 en1 q o1 => tM.bind r1 en1 o1 fun ob st2 ρ2 H2 vo e2 r2 en2 q2 o2 => by
    simp only [fDIn] at o2
    cases e : dGet ob k st2 with
    | none => rw [e] at o2; exact o2.elim
    | some res =>
      rw [e] at o2
      obtain ⟨a, w, rfl, g, z⟩ := dGet_rel r2 q2 (q.mono e2 r1) e
      refine ⟨a, w, rfl, g, ?_⟩
      rcases z with ⟨rfl, rfl⟩ | ⟨d, v, rfl, rfl, rd⟩
      · exact o2.here r2 (by cases bb <;> simp [reD, RelD])
      · exact o2.here r2 (by cases bb <;> simp [reD, RelD])
theorem ev_din (hu : X.A.units + 1 < cLine) (hi : EvE X W i mi) (ho : EvE X W o mo) (hm : behindInMarks .In o = false := by rfl) : EvE X W (.Compare i [.In] [o] pos) (mOp (fDIn true) mi mo) := PE.imp (pe_cmp (pc_din hu hi ho) hm) fun σ H Q h => tM.din h
theorem ev_dnotin (hu : X.A.units + 1 < cLine) (hi : EvE X W i mi) (ho : EvE X W o mo) (hm : behindInMarks .NotIn o = false := by rfl) : EvE X W (.Compare i [.NotIn] [o] pos) (mOp (fDIn false) mi mo) := PE.imp (pe_cmp (pc_dnotin hu hi ho) hm) fun σ H Q h => tM.din h
theorem et_din (hu : X.A.units + 1 < cLine) (hi : EvE X W i mi) (ho : EvE X W o mo) (hm : behindInMarks .In o = false := by rfl) : EvB X W (.Compare i [.In] [o] pos) (mB (mOp (fDIn true) mi mo)) := PT.imp (pt_cmp (pc_din hu hi ho) hm) fun σ H Q h => tM.din (tM.tst h)
theorem et_dnotin (hu : X.A.units + 1 < cLine) (hi : EvE X W i mi) (ho : EvE X W o mo) (hm : behindInMarks .NotIn o = false := by rfl) : EvB X W (.Compare i [.NotIn] [o] pos) (mB (mOp (fDIn false) mi mo)) := PT.imp (pt_cmp (pc_dnotin hu hi ho) hm) fun σ H Q h => tM.din (tM.tst h)
def mDNewK : SE := fun _ st => .ok (.loc st.length) (st ++ [.dk []])
def mDNewT : SE := fun _ st => .ok (.loc st.length) (st ++ [.dt []])
theorem ev_dnewK : EvE X W (.Dict [] [] pos) mDNewK := PE.imp pe_dnewK fun σ H Q ⟨ρ, τ, st, r0, en, o⟩ => fun p hp => Out.alloc (α := Unit) r0 o hp ⟨[], upd_same, .nil⟩
theorem ev_dnewT : EvE X W (.Dict [] [] pos) mDNewT := PE.imp pe_dnewT fun σ H Q ⟨ρ, τ, st, r0, en, o⟩ => fun p hp => Out.alloc (α := Unit) r0 o hp ⟨[], upd_same, .nil⟩
noncomputable def fSetD (ob k d : D) (st : Store) : Option Store := match ob with
  | .loc n => (match st[n]? with
    | some (.dk kvs) => (match keyOf k with
      | some q => if szFits (kvs.length + 1) = true then some (st.set n (.dk (putD kvs q d))) else none
      | none => none)
    | some (.dt kvs) => (match k with
      | .tup ks => (match keysOf ks with
        | some q => if szFits (kvs.length + 1) = true then some (st.set n (.dt (putD kvs q d))) else none
        | none => none)
      | _ => none)
    | _ => none)
  | _ => none
theorem setD_ok {K : PySem.W.Frag} {ρ : Mp} {st st' : Store} {H : Hp} {ob k d : D} {vo vk vd : V} (r : R K ρ st H) (ro : RelD K ρ st.length H ob vo) (rk : RelD K ρ st.length H k vk) (rd : RelD K ρ st.length H d vd) (h : fSetD ob k d st = some st') :
    ∃ a H', vo = .ref a ∧ DPut H a vk vd H' ∧ Ext ρ st.length H ρ st'.length H' ∧ R K ρ st' H' := by
  cases ob with
  | loc n =>
    simp only [fSetD] at h
    simp only [RelD] at ro
    obtain ⟨rfl, hl⟩ := ro
    cases e : st[n]? with
    | none => rw [e] at h; cases h
    | some ob =>
      rw [e] at h
      cases ob with
      | dk kvs =>
        simp only at h
        cases q : keyOf k with
        | none => rw [q] at h; cases h
        | some kk =>
          rw [q] at h
          simp only at h
          split at h
          · rename_i hz
            cases h
            obtain ⟨ws, hw, hp⟩ := r.obj n _ e
            rw [keyOf_rel rk q]
            refine ⟨_, _, rfl, DPut.k hw (by rw [Paired.len hp]; exact (szFits_lt.mp hz)), ?_, r.set hl ⟨_, upd_same, ?_⟩⟩
            · rw [List.length_set]; exact r.set_ext hl
            · exact Paired.monoP (PairR.put hp rd) fun p q z => ⟨z.1, RelD.mono z.2 (r.set_ext hl) r⟩
          · cases h
      | dt kvs =>
        cases k with
        | tup ks =>
          simp only at h
          cases q : keysOf ks with
          | none => rw [q] at h; cases h
          | some kk =>
            rw [q] at h
            simp only at h
            split at h
            · rename_i hz
              cases h
              obtain ⟨ws, hw, hp⟩ := r.obj n _ e
              simp only [RelD] at rk
              obtain ⟨b, us, rfl, hb, ru⟩ := rk
              rw [keysOf_rel ru q] at hb
              refine ⟨_, _, rfl, DPut.t hw hb (by rw [Paired.len hp]; exact (szFits_lt.mp hz)), ?_, r.set hl ⟨_, upd_same, ?_⟩⟩
              · rw [List.length_set]; exact r.set_ext hl
              · exact Paired.monoP (PairR.put hp rd) fun p q z => ⟨z.1, RelD.mono z.2 (r.set_ext hl) r⟩
            · cases h
        | _ => cases h
      | lst xs => cases h
  | _ => cases h
theorem es_dput (hu : X.A.units + 1 < cLine) (ho : EvE X W o mo) (hi : EvE X W i mi) (hv : EvE X W value mv) (hs : swapsWith value (some (.Subscript o i pos')) pos.line X.env = pure false := by rfl) :
    EvS X W (.Assign [.Subscript o i pos'] value pos) (sSub fSetD mo mi mv) :=
  PS.imp (ps_dput hu ho hi hv hs) fun D σ H ⟨ρ, τ, st, r0, en, oo⟩ => tM.goS r0 en oo fun d st1 ρ1 H1 v e1 r1 en1 q o1 => tM.goS r1 en1 o1 fun ob st2 ρ2 H2 vo e2 r2 en2 q2 o2 => tM.goS r2 en2 o2 fun k st3 ρ3 H3 vk e3 r3 en3 q3 o3 => by
    cases e : fSetD ob k d st3 with
    | none => rw [e] at o3; exact o3.elim
    | some st4 =>
      rw [e] at o3
      obtain ⟨a, H', rfl, p, ex, r4⟩ := setD_ok r3 (q2.mono e3 r2) q3 ((q.mono e2 r1).mono e3 r2) e
      exact ⟨a, H', rfl, p, o3 ρ3 H' σ ex r4 (en3.mono ex r3)⟩
end
end Fx

set_option Elab.async false
set_option linter.all false
set_option maxRecDepth 100000
set_option maxHeartbeats 4000000
namespace Fx
open PySem L2

section
variable {X : Cx} {W : WX} {e a b c o i value : Expr} {es : List Expr} {m ma mb mc mo mi mv : SE} {ms : SA} {pos p p2 pos' pos2 apos cpos : Pos} {x : Str}
/-! ### a list's methods -/
abbrev FM := D → List D → Store → Rs D
def mMeth (fm : FM) (mo : SE) (ms : SA) : SE := fun τ st => (mo τ st).bind fun ob st1 => match listOf ob st1 with
  | some _ => (ms τ st1).bind fun ds st2 => fm ob ds st2
  | none => .no
def MethS (X : Cx) (id : String) (fm : FM) : Prop := ∃ r, MtR X id r ∧ ∀ (W : WX) (σ : St) (ρ : Mp) (st : Store) (H : Hp) (ob : D) (ds : List D) (vo : V) (vs : List V) (Q : VK), R X.K ρ st H → RelD X.K ρ st.length H ob vo → RelDs X.K ρ st.length H ds vs →
  Out X.K (reD X.K) W σ ρ st.length H Q (fm ob ds st) → r vo vs H Q
theorem ev_bm {name : Str} {id : String} {fm : FM} (slot : PySem.Slot "list" name id) (hty : typeOf (.builtin id) = pure (.type "method_descriptor")) (hm : MethS X id fm) (ho : EvE X W o mo) (ha : EvA X W (e :: es) ms)
    (hbase : attributeBase o name X.env (eval o X.env) = eval o X.env := by rfl)
    (hfew : ((backTo cpos (starEach (e :: es) X.env)).all (fun x => !x.1) && (backToKw cpos (keywordEach [] X.env)).all (fun x => x.1.isSome)
      && decide ((e :: es).length + ([] : List Keyword).length + (if ([] : List Keyword).isEmpty then 0 else 1) < 30)) = true := by rfl)
    (hline : (apos.endLine == cpos.line) = true := by rfl) (hs : starEach (e :: es) X.env = (false, eval e X.env) :: starEach es X.env := by rfl) (hplain : (backTo cpos (starEach es X.env)).any (·.1) = false := by rfl) :
    EvE X W (.Call (.Attribute o name apos) (e :: es) [] cpos) (mMeth fm mo ms) := by
  obtain ⟨r, h1, h2⟩ := hm
  refine PE.imp (pe_bm PySem.F.plainAttrs_list slot hty h1 ho ha hbase hfew hline hs hplain) fun σ H Q ⟨ρ, τ, st, r0, en, oo⟩ => tM.bind r0 en oo fun ob st1 ρ1 H1 v e1 r1 en1 q o1 => ?_
  cases hl : listOf ob st1 with
  | none => rw [hl] at o1; exact o1.elim
  | some xs =>
    rw [hl] at o1
    obtain ⟨p, us, rfl, hs, _⟩ := listOf_rel r1 q hl
    exact ⟨.inl ⟨rfl, us, hs⟩, tM.bind r1 en1 o1 fun ds st2 ρ2 H2 vs e2 r2 en2 q2 o2 => h2 W σ ρ2 st2 H2 ob ds _ vs Q r2 (q.mono e2 r1) q2 o2⟩
theorem ev_bm0 {name : Str} {id : String} {fm : FM} (slot : PySem.Slot "list" name id) (hty : typeOf (.builtin id) = pure (.type "method_descriptor")) (hm : MethS X id fm) (ho : EvE X W o mo)
    (hbase : attributeBase o name X.env (eval o X.env) = eval o X.env := by rfl) (hline : (apos.endLine == cpos.line) = true := by rfl) : EvE X W (.Call (.Attribute o name apos) [] [] cpos) (mMeth fm mo mNil) := by
  obtain ⟨r, h1, h2⟩ := hm
  refine PE.imp (pe_bm0 PySem.F.plainAttrs_list slot hty h1 ho hbase hline) fun σ H Q ⟨ρ, τ, st, r0, en, oo⟩ => tM.bind r0 en oo fun ob st1 ρ1 H1 v e1 r1 en1 q o1 => ?_
  cases hl : listOf ob st1 with
  | none => rw [hl] at o1; exact o1.elim
  | some xs =>
    rw [hl] at o1
    obtain ⟨p, us, rfl, hs, _⟩ := listOf_rel r1 q hl
    exact ⟨.inl ⟨rfl, us, hs⟩, h2 W σ ρ1 st1 H1 ob [] _ [] Q r1 q .nil o1⟩
/-- a change of a list of the store -/
def onLoc (ob : D) (st : Store) (f : List D → Option (D × List D)) : Rs D := match ob with
  | .loc n => (match st[n]? with
    | some (.lst xs) => (match f xs with
      | some (d, ys) => .ok d (st.set n (.lst ys))
      | none => .no)
    | _ => .no)
  | _ => .no
theorem onLoc_ok {ob : D} {st : Store} {f : List D → Option (D × List D)} (h : onLoc ob st f ≠ .no) : ∃ n xs d ys, ob = .loc n ∧ st[n]? = some (.lst xs) ∧ f xs = some (d, ys) ∧ onLoc ob st f = .ok d (st.set n (.lst ys)) := by
  cases ob with
  | loc n =>
    simp only [onLoc] at h ⊢
    cases e : st[n]? with
    | none => rw [e] at h; exact absurd rfl h
    | some u =>
      rw [e] at h
      cases u with
      | lst xs =>
        simp only at h ⊢
        cases e2 : f xs with
        | none => rw [e2] at h; exact absurd rfl h
        | some p => obtain ⟨d, ys⟩ := p; exact ⟨n, xs, d, ys, rfl, e, e2, by simp only⟩
      | _ => exact absurd rfl h
  | _ => exact absurd rfl h
/-- writing a list of the store, in a reading -/
theorem Out.write {K : PySem.W.Frag} {ρ : Mp} {st : Store} {H : Hp} {σ : St} {Q : VK} {n : Nat} {d : D} {v : V} {ys : List D} {us : List V} (r0 : R K ρ st H) (h : Out K (reD K) W σ ρ st.length H Q (.ok d (st.set n (.lst ys)))) (hn : n < st.length)
    (hy : RelDs K ρ st.length H ys us) (hd : RelD K ρ st.length H d v) : Q v (upd H (ρ.at' n) (.lst us)) := by
  have ex := r0.set_ext (u := .lst us) hn
  refine h ρ _ v ?_ (r0.set hn ⟨us, upd_same, RelDs.mono ex r0 _ hy⟩) ?_
  · rw [List.length_set]; exact ex
  · simp only [reD]; rw [List.length_set]; exact hd.mono ex r0
noncomputable def fApp : FM := fun ob ds st => match ds with
  | [d] => onLoc ob st fun xs => if szFits (xs.length + 1) = true then some (.non, xs ++ [d]) else none
  | _ => .no
theorem ms_append : MethS X "list.append" fApp := by
  refine ⟨_, mt_append, fun W σ ρ st H ob ds vo vs Q r ro rv oo => ?_⟩
  match ds, rv, oo with
  | [d], rv, oo =>
    obtain ⟨v, rfl, rd⟩ := rv.one
    obtain ⟨n, xs, d', ys, rfl, e1, e2, e3⟩ := onLoc_ok (fun z => by simp only [fApp] at oo; rw [z] at oo; exact oo)
    simp only [fApp] at oo
    rw [e3] at oo
    split at e2
    · rename_i hz
      cases e2
      obtain ⟨hl, rfl, us, hv, ru⟩ := loc_rel r ro e1
      exact ⟨_, us, v, rfl, rfl, hv, by rw [ru.len]; exact (szFits_lt.mp hz), oo.write r hl (ru.append (.cons rd .nil)) (by simp [RelD])⟩
    · cases e2
  | [], _, oo => exact oo.elim
  | _ :: _ :: _, _, oo => simp [fApp] at oo; exact oo.elim
/-- the list given is another one, or is not one of the store's -/
noncomputable def fExt : FM := fun ob ds st => match ds with
  | [d] => (match listOf d st with
    | some zs => onLoc ob st fun xs => if szFits (xs.length + zs.length) = true then some (.non, xs ++ zs) else none
    | none => .no)
  | _ => .no
theorem lst_of {X : Cx} {pins : List (Addr × Obj)} : True := trivial
def fPop : FM := fun ob ds st => match ds with
  | [] => onLoc ob st fun xs => (xs[xs.length - 1]?).map fun d => (d, xs.dropLast)
  | _ => .no
theorem ms_pop : MethS X "list.pop" fPop := by
  refine ⟨_, mt_pop, fun W σ ρ st H ob ds vo vs Q r ro rv oo => ?_⟩
  match ds, rv, oo with
  | [], rv, oo =>
    obtain rfl := rv.nil_eq
    obtain ⟨n, xs, d', ys, rfl, e1, e2, e3⟩ := onLoc_ok (fun z => by simp only [fPop] at oo; rw [z] at oo; exact oo)
    simp only [fPop] at oo
    rw [e3] at oo
    cases q : xs[xs.length - 1]? with
    | none => rw [q] at e2; cases e2
    | some d =>
      rw [q] at e2
      cases e2
      obtain ⟨hl, rfl, us, hv, ru⟩ := loc_rel r ro e1
      obtain ⟨v, h1, h2⟩ := ru.get q
      exact ⟨_, us, v, rfl, rfl, hv, by rw [ru.len]; exact h1, oo.write r hl ru.dropLast h2⟩
  | _ :: _, _, oo => simp [fPop] at oo; exact oo.elim
noncomputable def fPopAt : FM := fun ob ds st => match ds with
  | [.int k] => if w63 k = true then onLoc ob st (fun xs => match ixN xs.length k with
    | some j => (xs[j]?).map fun d => (d, xs.eraseIdx j)
    | none => none) else .no
  | _ => .no
theorem ms_popAt : MethS X "list.pop" fPopAt := by
  refine ⟨_, mt_popAt, fun W σ ρ st H ob ds vo vs Q r ro rv oo => ?_⟩
  have hne : fPopAt ob ds st ≠ .no := fun z => by rw [z] at oo; exact oo
  unfold fPopAt at hne oo
  split at hne
  · rename_i k
    simp only at oo
    split at hne
    · rename_i hk0
      rw [if_pos hk0] at oo
      have hk := w63_iff.mp hk0
      obtain ⟨v, rfl, rd⟩ := rv.one
      simp only [RelD] at rd
      subst rd
      obtain ⟨n, xs, d', ys, rfl, e1, e2, e3⟩ := onLoc_ok hne
      rw [e3] at oo
      cases q0 : ixN xs.length k with
      | none => rw [q0] at e2; cases e2
      | some j =>
        rw [q0] at e2
        simp only at e2
        cases q : xs[j]? with
        | none => rw [q] at e2; cases e2
        | some d =>
          rw [q] at e2
          cases e2
          obtain ⟨hl, rfl, us, hv, ru⟩ := loc_rel r ro e1
          obtain ⟨v, h1, h2⟩ := ru.get q
          exact ⟨_, us, k, j, v, rfl, rfl, hv, hk.1, hk.2, by rw [ru.len]; exact (ixN_seq q0).1, h1, oo.write r hl (ru.eraseIdx j) h2⟩
    · exact absurd rfl hne
  · exact absurd rfl hne
/-! ### list(range(..)), tuple(range(..)) -/
abbrev reRg : Rl (Int × Int) (Int × Int) := fun _ _ _ _ a b => a = b
instance {K : PySem.W.Frag} : RlOk K reRg := ⟨fun _ _ h => h⟩
theorem ex_rgFits : ∃ f : Int → Int → Bool, ∀ i j, f i j = true ↔ RgOk i j := ⟨fun i j => @decide (RgOk i j) (by unfold RgOk; infer_instance), fun i j => @decide_eq_true_iff _ (_)⟩
noncomputable def rgFits : Int → Int → Bool := ex_rgFits.choose
theorem rg_rel {K : PySem.W.Frag} {ρ : Mp} {n : Nat} {H : Hp} (i j : Int) : RelDs K ρ n H (rangeD i j) (rgV i j) := by
  unfold rangeD rgV
  induction List.range (j - i).toNat with
  | nil => exact .nil
  | cons k r ih => exact .cons (by simp [RelD]) ih
noncomputable def mRgL1 (m : SE) : SA := fun τ st => (m τ st).bind fun d st1 => match d with
  | .int j => if rgFits 0 j = true then .ok (rangeD 0 j) st1 else .no
  | _ => .no
noncomputable def mRgL2 (ma mb : SE) : SA := fun τ st => (ma τ st).bind fun d st1 => (mb τ st1).bind fun d2 st2 => match d, d2 with
  | .int i, .int j => if rgFits i j = true then .ok (rangeD i j) st2 else .no
  | _, _ => .no
def mTupOf (m : SA) : SE := fun τ st => (m τ st).bind fun ds st1 => .ok (.tup ds) st1
theorem rgFits_ok {i j : Int} (h : rgFits i j = true) : RgOk i j := (ex_rgFits.choose_spec i j).mp h
section
variable (hc : X.calm = true) (hm : X.mg "range" = none)
theorem ef_listRg1 (hm2 : X.mg "list" = none) (ha : EvE X W a ma) (hc : X.calm = true) (hm : X.mg "range" = none) (hg : Gl X "range" := by rfl) (hg2 : Gl X "list" := by rfl) (na : starEach [a] X.env = (false, eval a X.env) :: starEach [] X.env := by rfl)
    (na2 : starEach [Expr.Call (.Name "range" p2) [a] [] pos2] X.env = (false, eval (.Call (.Name "range" p2) [a] [] pos2) X.env) :: starEach [] X.env := by rfl) :
    EvF X W (.Call (.Name "list" p) [.Call (.Name "range" p2) [a] [] pos2] [] pos) (mRgL1 ma) := PE.imp (pe_listRg hc hg2 hm2 (prg_1 hg hm ha na) na2) fun σ H Q ⟨ρ, τ, st, r0, en, oo⟩ =>
  tM.bind r0 en oo fun d st1 ρ1 H1 v e1 r1 en1 q o1 => by
    cases d with
    | int j =>
      simp only [RelD] at q
      simp only at o1
      split at o1
      · rename_i h; exact ⟨j, q, rgFits_ok h, fun y hy => Out.fresh r1 o1 hy (rg_rel _ _)⟩
      · exact o1.elim
    | _ => exact o1.elim
theorem ef_listRg2 (hm2 : X.mg "list" = none) (ha : EvE X W a ma) (hb : EvE X W b mb) (hc : X.calm = true) (hm : X.mg "range" = none) (hg : Gl X "range" := by rfl) (hg2 : Gl X "list" := by rfl) (na : starEach [a, b] X.env = (false, eval a X.env) :: starEach [b] X.env := by rfl)
    (nb : starEach [b] X.env = (false, eval b X.env) :: starEach [] X.env := by rfl) (hp : (backTo pos2 (starEach [b] X.env)).any (·.1) = false := by rfl)
    (na2 : starEach [Expr.Call (.Name "range" p2) [a, b] [] pos2] X.env = (false, eval (.Call (.Name "range" p2) [a, b] [] pos2) X.env) :: starEach [] X.env := by rfl) :
    EvF X W (.Call (.Name "list" p) [.Call (.Name "range" p2) [a, b] [] pos2] [] pos) (mRgL2 ma mb) := PE.imp (pe_listRg hc hg2 hm2 (prg_2 hg hm ha hb na nb hp) na2) fun σ H Q ⟨ρ, τ, st, r0, en, oo⟩ =>
  tM.bind r0 en oo fun d st1 ρ1 H1 v e1 r1 en1 q o1 => tM.bind r1 en1 o1 fun d2 st2 ρ2 H2 v2 e2 r2 en2 q2 o2 => by
    cases d with
    | int i =>
      cases d2 with
      | int j =>
        simp only [RelD] at q q2
        simp only at o2
        split at o2
        · rename_i h; exact ⟨i, j, q, q2, rgFits_ok h, fun y hy => Out.fresh r2 o2 hy (rg_rel _ _)⟩
        · exact o2.elim
      | _ => exact o2.elim
    | _ => exact o2.elim
theorem ev_tupRg1 (hm2 : X.mg "tuple" = none) (ha : EvE X W a ma) (hc : X.calm = true) (hm : X.mg "range" = none) (hg : Gl X "range" := by rfl) (hg2 : Gl X "tuple" := by rfl) (na : starEach [a] X.env = (false, eval a X.env) :: starEach [] X.env := by rfl)
    (na2 : starEach [Expr.Call (.Name "range" p2) [a] [] pos2] X.env = (false, eval (.Call (.Name "range" p2) [a] [] pos2) X.env) :: starEach [] X.env := by rfl) :
    EvE X W (.Call (.Name "tuple" p) [.Call (.Name "range" p2) [a] [] pos2] [] pos) (mTupOf (mRgL1 ma)) := PE.imp (pe_tupRg hc hg2 hm2 (prg_1 hg hm ha na) na2) fun σ H Q ⟨ρ, τ, st, r0, en, oo⟩ => by
  have oo' : Out X.K (reD X.K) W σ ρ st.length H Q ((ma τ st).bind fun d st1 => (match d with
    | .int j => if rgFits 0 j = true then Rs.ok (rangeD 0 j) st1 else .no
    | _ => .no).bind fun ds st2 => .ok (.tup ds) st2) := by
    unfold mTupOf mRgL1 at oo
    rw [Rs.bind_assoc] at oo
    exact oo
  refine tM.bind r0 en oo' fun d st1 ρ1 H1 v e1 r1 en1 q o1 => ?_
  cases d with
  | int j =>
    simp only [RelD] at q
    simp only at o1
    split at o1
    · rename_i h
      refine ⟨j, q, rgFits_ok h, fun y hy => Out.free (d := D.tup (rangeD 0 j)) r1 o1 hy ?_⟩
      simp only [reD, RelD]
      exact ⟨y, _, rfl, upd_same, rg_rel _ _⟩
    · exact o1.elim
  | _ => exact o1.elim
end
/-! ### xs * k of a list -/
theorem Out.bindE {α β γ δ : Type} {K : PySem.W.Frag} {ρ : Mp} {st : Store} {H : Hp} {σ : St} {Ra : Rl α β} {Rg : Rl γ δ} [RlOk K Ra] [RlOk K Rg] {Q : δ → Hp → Prop} {Q1 : β → Hp → Prop} {r : Rs α} {k : α → Store → Rs γ} (r0 : R K ρ st H) (h : Out K Rg W σ ρ st.length H Q (r.bind k))
    (hk : ∀ d st1 ρ1 H1 v, r = .ok d st1 → Ext ρ st.length H ρ1 st1.length H1 → R K ρ1 st1 H1 → Ra H ρ1 st1 H1 d v → Out K Rg W σ ρ1 st1.length H1 Q (k d st1) → Q1 v H1) : Out K Ra W σ ρ st.length H Q1 r := by
  cases r with
  | no => exact h
  | ok d st1 => exact fun ρ1 H1 v e1 r1 q => hk d st1 ρ1 H1 v rfl e1 r1 q (Out.shift h r0 e1 r1)
  | er x st1 => exact h
/-- [a, b] * k -/
noncomputable def mMulD (ms : SA) (mb : SE) : SA := fun τ st => (ms τ st).bind fun xs st1 => (mb τ st1).bind fun y st2 => match y with
  | .int k => if w63 k = true ∧ szFits (xs.length * k.toNat) = true then .ok (List.replicate k.toNat xs).flatten st2 else .no
  | _ => .no
theorem ef_mulD {n : Nat} (h : EvA X W es ms) (hl : LenA ms n) (hb : EvE X W b mb) (hk : n ≤ 100 := by decide) : EvF X W (.BinOp (.List es pos2) .Mult b pos) (mMulD ms mb) := PE.imp (pe_op op_rep (pe_lst h) hb) fun σ H Q ⟨ρ, τ, st, r0, en, oo⟩ => by
  show tLst _ σ H _
  refine ⟨ρ, τ, st, r0, en, Out.bindE (Ra := reL X.K) r0 oo fun xs st1 ρ1 H1 vs eq e1 r1 rv o1 => ⟨by rw [rv.len, hl _ _ _ _ eq]; exact len100 hk, fun p hp => ?_⟩⟩
  -- the display is an object of the heap, not of the store
  have en1 := (en.mono e1 r0).mono (r1.push_ext (u := .lst vs) hp) r1
  have r2 := r1.free (u := .lst vs) hp
  have o2 := Out.shift o1 r1 (r1.push_ext (u := .lst vs) hp) r2
  refine tM.bind r2 en1 o2 fun y st3 ρ3 H3 vy e3 r3 en3 q3 o3 => ?_
  cases y with
  | int k =>
    simp only [RelD] at q3
    simp only at o3
    split at o3
    · rename_i hz
      have hp3 : H3 p = some (.lst vs) := e3.keep p _ upd_same (r1.ne_none hp)
      refine ⟨p, k, vs, rfl, q3, hp3, (w63_iff.mp hz.1).1, (w63_iff.mp hz.1).2, by rw [rv.len]; exact szFits_iff.mp hz.2, fun y hy => Out.fresh r3 o3 hy (RelDs.repl ?_ _)⟩
      exact RelDs.mono e3 r2 _ (RelDs.mono (r1.push_ext hp) r1 _ rv)
    · exact o3.elim
  | _ => exact o3.elim
/-! ### isinstance -/
inductive Ty | non | bool | int | str | tup | list | dict
  deriving DecidableEq
def Ty.nm : Ty → String
  | .non => "NoneType" | .bool => "bool" | .int => "int" | .str => "str" | .tup => "tuple" | .list => "list" | .dict => "dict"
def Ty.sub (a b : Ty) : Bool := decide (a = b) || (decide (a = .bool) && decide (b = .int))
theorem kit_nm (a b : Ty) : kitB a.nm b.nm = some (a.sub b) := by
  cases a <;> cases b <;> decide +kernel
def tyD (d : D) (st : Store) : Option Ty := match d with
  | .non => some .non
  | .bl _ => some .bool
  | .int _ => some .int
  | .str _ => some .str
  | .tup _ => some .tup
  | .lst _ => some .list
  | .loc i => (match st[i]? with
    | some (.lst _) => some .list
    | some (.dk _) => some .dict
    | some (.dt _) => some .dict
    | none => none)
  | _ => none
theorem tyD_rel {K : PySem.W.Frag} {ρ : Mp} {st : Store} {H : Hp} {d : D} {v : V} {t : Ty} (r : R K ρ st H) (rd : RelD K ρ st.length H d v) (h : tyD d st = some t) : TyX K H v (.type t.nm) := by
  cases d with
  | non => simp only [RelD] at rd; subst rd; cases h; exact .base .non
  | bl b => simp only [RelD] at rd; subst rd; cases h; exact .base (.bl b)
  | int b => simp only [RelD] at rd; subst rd; cases h; exact .base (.int b)
  | str b => simp only [RelD] at rd; subst rd; cases h; exact .base (.str b)
  | tup xs => simp only [RelD] at rd; obtain ⟨a, vs, rfl, s, _⟩ := rd; cases h; exact .base (.tup s)
  | lst xs =>
    simp only [RelD] at rd
    obtain ⟨a, vs, rfl, s, _⟩ := rd
    cases h
    rcases s with ⟨s | ⟨o, s⟩, _⟩ | ⟨o, its, m, e, c, _⟩
    · exact .base (.lst s)
    · exact .base (.frz s)
    · exact .kList e c
  | loc i =>
    simp only [RelD] at rd
    obtain ⟨rfl, _⟩ := rd
    simp only [tyD] at h
    cases e : st[i]? with
    | none => rw [e] at h; cases h
    | some u =>
      rw [e] at h
      cases u with
      | lst xs => obtain ⟨vs, hv, _⟩ := r.obj i _ e; cases h; exact .base (.lst hv)
      | dk xs => obtain ⟨vs, hv, _⟩ := r.obj i _ e; cases h; exact .base (.dK hv)
      | dt xs => obtain ⟨vs, hv, _⟩ := r.obj i _ e; cases h; exact .base (.dT hv)
  | _ => cases h
def mIsi (m : SE) (T : Ty) : SE := fun τ st => (m τ st).bind fun d st1 => match tyD d st1 with
  | some t => .ok (.bl (t.sub T)) st1
  | none => .no
theorem ev_isi {c : Str} (T : Ty) (hmI : X.mg "isinstance" = none) (hmT : X.mg c = none) (hvT : bootBuiltins c = some (.type T.nm)) (ha : EvE X W a ma) (hgI : Gl X "isinstance" := by rfl) (hgT : Gl X c := by rfl) (hn : c ≠ "__name__" := by decide) (hd : (c == ("__debug__" : Str)) = false := by decide)
    (h1 : starEach [a, .Name c p2] X.env = (false, eval a X.env) :: starEach [Expr.Name c p2] X.env := by rfl) (h2 : starEach [Expr.Name c p2] X.env = (false, eval (.Name c p2) X.env) :: starEach [] X.env := by rfl) (hpl : (backTo pos (starEach [Expr.Name c p2] X.env)).any (·.1) = false := by rfl) :
    EvE X W (.Call (.Name "isinstance" p) [a, .Name c p2] [] pos) (mIsi ma T) :=
  PE.imp (pe_callB call_isi hgI hmI (by decide +kernel) (pa_cons ha (pa_cons (pe_bltn (v := .ty T.nm) hgT hmT hvT rfl hn hd) pa_nil h2) h1) (by decide) (by decide) h1 hpl) fun σ H Q ⟨ρ, τ, st, r0, en, oo⟩ =>
    tM.bind r0 en oo fun d st1 ρ1 H1 v e1 r1 en1 q o1 => by
      cases e : tyD d st1 with
      | none => rw [e] at o1; exact o1.elim
      | some t =>
        rw [e] at o1
        exact ⟨v, .ty T.nm, .type t.nm, .type T.nm, t.sub T, rfl, .ty _, tyD_rel r1 q e, kit_ty (kit_nm t T), o1.here r1 (by simp [reD, RelD])⟩
/-- isinstance(x, (T, U)) -/
def mIsi2 (m : SE) (T U : Ty) : SE := fun τ st => (m τ st).bind fun d st1 => match tyD d st1 with
  | some t => .ok (.bl (t.sub T || t.sub U)) st1
  | none => .no
theorem kitAny2 {K : PySem.W.Frag} (t T U : Ty) : PySem.W.kitAny K (.type t.nm) [.type T.nm, .type U.nm] = some (t.sub T || t.sub U) :=
  kitAny_cons (kit_ty (kit_nm t T)) (fun h => by rw [h, Bool.false_or]; exact kitAny_cons (r := t.sub U) (kit_ty (kit_nm t U)) (fun h2 => by rw [h2]; exact kitAny_nil) id) fun h => by rw [h]; rfl
theorem ev_isi2 {c d : Str} {k : Nat} {p3 pt : Pos} (T U : Ty) (hmI : X.mg "isinstance" = none) (hmT : X.mg c = none) (hmU : X.mg d = none) (hvT : bootBuiltins c = some (.type T.nm)) (hvU : bootBuiltins d = some (.type U.nm)) (ha : EvE X W a ma) (hgI : Gl X "isinstance" := by rfl) (hgT : Gl X c := by rfl) (hgU : Gl X d := by rfl)
    (hn : c ≠ "__name__" := by decide) (hd : (c == ("__debug__" : Str)) = false := by decide) (hnU : d ≠ "__name__" := by decide) (hdU : (d == ("__debug__" : Str)) = false := by decide)
    (t1 : starEach [Expr.Name c p2, .Name d p3] X.env = (false, eval (.Name c p2) X.env) :: starEach [Expr.Name d p3] X.env := by rfl) (t2 : starEach [Expr.Name d p3] X.env = (false, eval (.Name d p3) X.env) :: starEach [] X.env := by rfl)
    (h1 : starEach [a, .Tuple [.Name c p2, .Name d p3] k pt] X.env = (false, eval a X.env) :: starEach [Expr.Tuple [.Name c p2, .Name d p3] k pt] X.env := by rfl) (h2 : starEach [Expr.Tuple [.Name c p2, .Name d p3] k pt] X.env = (false, eval (.Tuple [.Name c p2, .Name d p3] k pt) X.env) :: starEach [] X.env := by rfl)
    (hpl : (backTo pos (starEach [Expr.Tuple [.Name c p2, .Name d p3] k pt] X.env)).any (·.1) = false := by rfl) :
    EvE X W (.Call (.Name "isinstance" p) [a, .Tuple [.Name c p2, .Name d p3] k pt] [] pos) (mIsi2 ma T U) :=
  PE.imp (pe_callB call_isiT hgI hmI (by decide +kernel) (pa_cons ha (pa_cons (pe_tup (pa_cons (pe_bltn (v := .ty T.nm) hgT hmT hvT rfl hn hd) (pa_cons (pe_bltn (v := .ty U.nm) hgU hmU hvU rfl hnU hdU) pa_nil t2) t1)) pa_nil h2) h1) (by decide) (by decide) h1 hpl) fun σ H Q ⟨ρ, τ, st, r0, en, oo⟩ =>
    tM.bind r0 en oo fun d st1 ρ1 H1 v e1 r1 en1 q o1 => by
      cases e : tyD d st1 with
      | none => rw [e] at o1; exact o1.elim
      | some t =>
        rw [e] at o1
        refine ⟨by show 2 ≤ sizeLine; decide, fun p hp => ?_⟩
        have r2 := r1.free (u := .tup [.ty T.nm, .ty U.nm]) hp
        have ex := r1.push_ext (u := .tup [.ty T.nm, .ty U.nm]) hp
        exact ⟨v, p, [.ty T.nm, .ty U.nm], .type t.nm, [.type T.nm, .type U.nm], t.sub T || t.sub U, rfl, upd_same, .cons (.ty _) (.cons (.ty _) .nil), tyD_rel r2 (q.mono ex r1) e, kitAny2 t T U, (Out.shift o1 r1 ex r2).here r2 (by simp [reD, RelD])⟩
end
end Fx

set_option Elab.async false
set_option linter.all false
set_option maxRecDepth 100000
set_option maxHeartbeats 4000000
namespace PySem
open Sem (wp)
open AutoSeq1 (wpAny_loadPart')
theorem fx_meets_enumerate_newT (l : Addr) (items : Array Value) (n : Nat) (dct : Option Addr) (sl : Array (Option Value)) :
    Meets (Builtin.«enumerate.__new__» ⟨[.type "enumerate", .ref l], []⟩) (fun _ R s => s.heap.get? l = some { cls := .type "tuple", dict := dct, data := .seq items n, slots := sl } ∧
      R (.ok (.ret (.ref (s.heap.push { cls := .type "tuple_iterator", data := .fields #[.ref l, .int 0 0] }).objs.size)))
        { s with heap := (s.heap.push { cls := .type "tuple_iterator", data := .fields #[.ref l, .int 0 0] }).push { cls := .type "enumerate", data := .fields #[.none, .bool false, .ref s.heap.objs.size, rawInt 0, .none, .none] } }) :=
  .of_wp fun prog w A R s h => by
    obtain ⟨hp, g, d, tk, os⟩ := s; obtain ⟨hl, h⟩ := h
    have hsub := sub_enumerate
    have hL : Heap.IsTuple (Shared.heap ⟨hp, g, d, tk, os⟩) l items := ⟨_, hl, rfl, n, rfl⟩
    wp_walk using wpAny_loadPart' hl
    refine wpAny_stack_any fun st => wpAny_pure ?_
    split
    · rename_i c _ _ _ _ _
      cases (c == Value.type "enumerate")
      · wp_walk using wpAny_loadPart' hl, wpAny_pyIter_tuple hL
        exact ⟨_, rfl, h⟩
      · wp_walk using wpAny_loadPart' hl, wpAny_pyIter_tuple hL
        exact ⟨_, rfl, h⟩
    · wp_walk using wpAny_loadPart' hl, wpAny_pyIter_tuple hL
      exact ⟨_, rfl, h⟩
section
variable {prog : Program} {w : World} {A : Around} {E : Value → Shared → Prop} {s : Shared}
theorem fx_call_enumerate_tuple {l : Addr} {items : Array Value} {Q : Value → Shared → Prop} (hL : s.heap.IsTuple l items)
    (h : ∀ h', IsEnum h' (s.heap.objs.size + 1) s.heap.objs.size 0 .none → h'.IsTupleIter s.heap.objs.size l 0 → h'.objs.size = s.heap.objs.size + 2 →
      (∀ b o, s.heap.get? b = some o → h'.get? b = some o) → Q (.ref (s.heap.objs.size + 1)) { s with heap := h' }) :
    wpAny (model prog w) A (call (.type "enumerate") [.ref l]) Q E s := by
  obtain ⟨⟨c, dct, dt, sl⟩, hl, hc, n, hd⟩ := hL
  replace hc : c = .type "tuple" := hc
  replace hd : dt = .seq items n := hd
  subst hc hd
  refine callType_new F.called_enumerate (by decide) (F.typeCall_enumerate_1 _) (F.newCall_enumerate_1 _) (fun obj => F.args_object_init_2 obj _) F.entry_enumerate_new
    (fx_meets_enumerate_newT l items n dct sl) ⟨hl, ?_⟩
  have hz : (s.heap.push { cls := .type "tuple_iterator", data := .fields #[.ref l, .int 0 0] }).objs.size = s.heap.objs.size + 1 := Heap.size_push ..
  show _ ∧ _
  rw [hz]
  have he : IsEnum ((s.heap.push { cls := .type "tuple_iterator", data := .fields #[.ref l, .int 0 0] }).push
      { cls := .type "enumerate", data := .fields #[.none, .bool false, .ref s.heap.objs.size, rawInt 0, .none, .none] }) (s.heap.objs.size + 1) s.heap.objs.size 0 .none := by
    have := Heap.get?_push_size (s.heap.push { cls := .type "tuple_iterator", data := .fields #[.ref l, .int 0 0] })
      (o := { cls := .type "enumerate", data := .fields #[.none, .bool false, .ref s.heap.objs.size, rawInt 0, .none, .none] }) rfl
    rw [hz] at this; exact this
  refine ⟨⟨_, he, rfl⟩, h _ he ⟨_, Heap.get?_push_of_some _ (Heap.get?_push_size _ rfl), rfl, rfl⟩ (by rw [Heap.size_push, hz]) fun b o x => Heap.get?_push_of_some _ (Heap.get?_push_of_some _ x)⟩
end
end PySem
namespace L2
open PySem PySem.Spec PyProof.Rows
/-- the tuple at a, each item in a new pair -/
def FxIteT (K : PySem.W.Frag) (a : Addr) : It :=
  ⟨fun i H => ∃ (xs : List V) (x : V), SqT K H a xs ∧ xs[i]? = some x, fun i H v H' => ∃ T x, v = .ref T ∧ H T = none ∧ H' = upd H T (.tup [.int (i : Nat), x]) ∧ ∀ xs, SqT K H a xs → xs[i]? = some x, fun i H => ∃ xs : List V, SqT K H a xs ∧ xs.length ≤ i⟩
theorem fx_turn_enumT {P : Program} {w : World} {K : PySem.W.Frag} {elts : List Expr} {kk : Nat} {tpos : Pos} (a e it : Addr) :
    Turn P w K (.Tuple elts kk tpos) (FxIteT K a) [e, it] e (fun i h => (∃ old, IsEnum h e it ((i : Nat) : Int) old) ∧ h.IsTupleIter it a i ∧ e ≠ it) where
  mem := by simp
  obj := fun i h st b hb => by
    obtain ⟨⟨old, he⟩, ⟨o, ho, hc, hd⟩, _⟩ := st
    have e' : b = e ∨ b = it := by simpa using hb
    rcases e' with z | z
    · rw [z]; exact ⟨_, he, fun v q => nomatch q⟩
    · rw [z]; exact ⟨o, ho, fun v q => by rw [hd] at q; cases q⟩
  keep := fun i h h' st k => let ⟨⟨old, he⟩, hi, hne⟩ := st; ⟨⟨old, k e (by simp) _ he⟩, hi.at fun o q => k it (by simp) o q, hne⟩
  item := by
    intro X hP hw hK hc i pins s σ H E I hf st hg
    subst hP hw hK
    obtain ⟨⟨old, he⟩, hit, hne⟩ := st
    obtain ⟨xs, x, hq, hx⟩ := hg
    obtain ⟨its, rv, p, hz⟩ := I.tuple hq
    obtain ⟨u, hu, ru⟩ := rv.get hx
    have hel : e < s.heap.objs.size := Heap.lt_size he
    have hil : it < s.heap.objs.size := by obtain ⟨_, q, _⟩ := hit; exact Heap.lt_size q
    have hia : a ≠ it := by
      obtain ⟨o1, h1, c1, _⟩ := p
      obtain ⟨o2, h2, c2, _⟩ := hit
      intro z
      rw [z, h2] at h1
      cases h1
      rw [c2] at c1
      exact absurd (Value.type.inj c1) (by decide)
    have hae : a ≠ e := by
      obtain ⟨o1, h1, c1, _⟩ := p
      intro z
      rw [z, he] at h1
      cases h1
      exact absurd (Value.type.inj c1) (by decide)
    have hlt : i < its.toArray.size := by
      have := (List.getElem?_eq_some_iff.mp hu).1
      simpa using this
    have hcal : X.A.in1.handled = none := I.ok.hd hc
    refine wpAny_pyNext_enum_itemD (Draws.tuple hcal it a hia its.toArray) he ⟨hit, show s.heap.IsTuple a its.toArray from p⟩ hlt hne (by simp [hne, Ne.symm hae]) fun y h' tk hy ho hst hT hsz hk => ?_
    have hy' : y = u := by
      rw [List.getElem?_toArray] at hy
      rw [hu] at hy; cases hy; rfl
    subst hy'
    refine ⟨_, rfl, wpAny_letOwnedTupleGo_enum (s := { s with heap := h', toks := tk + 1 }) ho fun h'' he' sb => ?_⟩
    have hT2 : h''.get? s.heap.objs.size = some { cls := .type "tuple", data := .seq #[.int i tk, y] } := (sb.2 _ (Nat.ne_of_gt hel)).trans hT
    have new : ObjOk X.prog X.w (upd H s.heap.objs.size (.tup [.int (i : Nat), x])) h'' s.heap.objs.size (.tup [.int (i : Nat), x]) :=
      ⟨by show 2 ≤ sizeLine; decide, [.int i tk, y], .cons ⟨_, rfl⟩ (.cons ru .nil), ⟨_, hT2, rfl, _, rfl⟩⟩
    have I1 : Inv X pins σ (upd H s.heap.objs.size (.tup [.int (i : Nat), x])) { s with heap := h'', toks := tk + 1 } :=
      I.turnedNew (ch := [e, it]) (fun b ob hb q => (sb.2 b (fun z => hb (by simp [z]))).trans (hk b ob (fun z => hb (by simp [z])) (fun z => hb (by simp [z])) q)) hf (Nat.le_refl _) new
    refine ⟨.ref s.heap.objs.size, _, I1, rfl, ⟨_, x, rfl, I.hok.fresh (Nat.le_refl _), rfl, fun ys hy => by rw [I.tuple_inj hy hq]; exact hx⟩, ⟨⟨y, ?_⟩, hst.1.at fun o q => (sb.2 it (Ne.symm hne)).trans q, hne⟩, fun b hb => ?_⟩
    · have e1 : ((i + 1 : Nat) : Int) = (i : Int) + 1 := by omega
      rw [e1]; exact he'
    · have hb' : b < s.heap.objs.size := by
        have e' : b = e ∨ b = it := by simpa using hb
        rcases e' with z | z
        · rw [z]; exact hel
        · rw [z]; exact hil
      rw [upd_ne (Nat.ne_of_lt hb')]
      exact (hf b hb).1
  done := by
    intro X hP hw hK hc i pins s σ H E I hf st hg
    subst hP hw hK
    obtain ⟨⟨old, he⟩, hit, hne⟩ := st
    obtain ⟨xs, hq, hx⟩ := hg
    obtain ⟨its, rv, p, hz⟩ := I.tuple hq
    obtain ⟨f0, f1, f2, f3, f4, f5⟩ := hf it (by simp)
    have hl := rv.length
    have hia : a ≠ it := by
      obtain ⟨o1, h1, c1, _⟩ := p
      obtain ⟨o2, h2, c2, _⟩ := hit
      intro z
      rw [z, h2] at h1
      cases h1
      rw [c2] at c1
      exact absurd (Value.type.inj c1) (by decide)
    have hcal : X.A.in1.handled = none := I.ok.hd hc
    have D' : Draws X.prog X.w X.A.in1 it [it, a] i (fun _ _ => True) (fun j h => j = i ∧ h.IsTupleIter it a i ∧ h.IsTuple a its.toArray) :=
      { live := fun _ _ st => let ⟨o, ho, _⟩ := st.2.1; ⟨o, ho⟩
        frame := fun _ _ _ st hk => ⟨st.1, st.2.1.at fun o e => hk it (by simp) o e, st.2.2.at fun o e => hk a (by simp) o e⟩
        item := fun j s Q E hj st _ => absurd st.1 (Nat.ne_of_lt hj)
        done := fun s Q E st hE => wpAny_nextOf_tuple_end hcal st.2.1 st.2.2 (by simp; omega) hE }
    exact wpAny_pyNext_enum_endD D' he ⟨rfl, hit, show s.heap.IsTuple a its.toArray from p⟩ fun h' eb => ⟨rfl, I.turned (t' := s.toks) (fun b o hb q => eb b o hb q) f0 f1 f3 f4 f5⟩
  self := fun A i s Q E st h => let ⟨⟨_, he⟩, _⟩ := st; wpAny_pyIter_enum he h
end L2
namespace Fx
open PySem L2
/-! ### enumerate(x), x a tuple or a list that is only read -/
def enumD (ds : List D) : List D := (List.range ds.length).zipWith (fun i d => D.tup [.int (i : Nat), d]) ds
theorem enumD_get {ds : List D} {i : Nat} : (enumD ds)[i]? = (ds[i]?).map fun d => D.tup [.int (i : Nat), d] := by
  unfold enumD
  rw [List.getElem?_zipWith]
  by_cases h : i < ds.length
  · rw [List.getElem?_range h, List.getElem?_eq_getElem h]; rfl
  · rw [List.getElem?_eq_none (by omega : ds.length ≤ i)]
    cases (List.range ds.length)[i]? <;> rfl
theorem enumD_len (ds : List D) : (enumD ds).length = ds.length := by simp [enumD]
section
variable {K : PySem.W.Frag} {ρ : Mp} {st : Store} {H : Hp} {ds : List D}
theorem itR_enumL {a : Addr} {vs : List V} (h : LstAt K H ρ st.length a vs) (rv : RelDs K ρ st.length H ds vs) (r : R K ρ st H) : ItR K ρ st H (Ite K a) (enumD ds) := fun ρ2 st2 H2 e r2 i => by
  have h2 : SqL K H2 a vs := (e.lstAt h).sq
  refine ⟨fun d hd => ?_, fun hl => ⟨vs, h2, by rw [rv.len, ← enumD_len]; exact hl⟩⟩
  rw [enumD_get] at hd
  cases q0 : ds[i]? with
  | none => rw [q0] at hd; cases hd
  | some d0 =>
    rw [q0] at hd
    cases hd
    obtain ⟨v, hv, rd⟩ := rv.get q0
    refine ⟨⟨vs, v, h2, hv⟩, fun x H3 ⟨T, y, ex, hT, e3, q⟩ => ?_⟩
    subst e3; subst ex
    have q' := q vs h2
    rw [hv] at q'; cases q'
    refine ⟨r2.push_ext hT, r2.free hT, ?_⟩
    simp only [RelD]
    refine ⟨T, _, rfl, upd_same, .cons (by simp [RelD]) (.cons ?_ .nil)⟩
    exact (RelD.monoW e r _ rd).mono (r2.push_ext hT) r2
theorem itR_enumT {a : Addr} {vs : List V} (h : H a = some (.tup vs)) (rv : RelDs K ρ st.length H ds vs) (r : R K ρ st H) : ItR K ρ st H (FxIteT K a) (enumD ds) := fun ρ2 st2 H2 e r2 i => by
  have h2 : SqT K H2 a vs := SqT.of (e.keep a _ h (r.ne h rfl))
  refine ⟨fun d hd => ?_, fun hl => ⟨vs, h2, by rw [rv.len, ← enumD_len]; exact hl⟩⟩
  rw [enumD_get] at hd
  cases q0 : ds[i]? with
  | none => rw [q0] at hd; cases hd
  | some d0 =>
    rw [q0] at hd
    cases hd
    obtain ⟨v, hv, rd⟩ := rv.get q0
    refine ⟨⟨vs, v, h2, hv⟩, fun x H3 ⟨T, y, ex, hT, e3, q⟩ => ?_⟩
    subst e3; subst ex
    have q' := q vs h2
    rw [hv] at q'; cases q'
    refine ⟨r2.push_ext hT, r2.free hT, ?_⟩
    simp only [RelD]
    refine ⟨T, _, rfl, upd_same, .cons (by simp [RelD]) (.cons ?_ .nil)⟩
    exact (RelD.monoW e r _ rd).mono (r2.push_ext hT) r2
end
def mEnum (m : SE) : SA := fun τ st => (itemsOf (m τ st)).bind fun ds st1 => .ok (enumD ds) st1
theorem ei_enum {X : Cx} {W : WX} {e : Expr} {m : SE} {p pos tpos : Pos} {elts : List Expr} {kk : Nat} (hm : X.mg "enumerate" = none) (he : EvE X W e m) (hg : Gl X "enumerate" := by rfl) (hs : starEach (e :: []) X.env = (false, eval e X.env) :: starEach [] X.env := by rfl) (hs2 : starEach [e] X.env = [(false, eval e X.env)] := by rfl) :
    EvI X W (.Tuple elts kk tpos) (.Call (.Name "enumerate" p) [e] [] pos) (mEnum m) := by
  refine ⟨fun pins s σ H Rr I h => ?_⟩
  obtain ⟨ρ, τ, st, r0, en, o⟩ := h
  have ha : PA X [e] (tCons (tM X.K (reD X.K) W m) tNil) := pa_cons he pa_nil hs
  have q0 : tCons (tM X.K (reD X.K) W m) tNil σ H fun vs H1 => ∃ a, vs = [.ref a] ∧ ((∃ us, SqL X.K H1 a us ∧ ∃ ρ1 st1 ds, R X.K ρ1 st1 H1 ∧ LstAt X.K H1 ρ1 st1.length a us ∧ RelDs X.K ρ1 st1.length H1 ds us ∧ Out X.K (reI X.K) W σ ρ1 st1.length H1 Rr (.ok (enumD ds) st1)) ∨
      (∃ us, H1 a = some (.tup us) ∧ ∃ ρ1 st1 ds, R X.K ρ1 st1 H1 ∧ RelDs X.K ρ1 st1.length H1 ds us ∧ Out X.K (reI X.K) W σ ρ1 st1.length H1 Rr (.ok (enumD ds) st1))) := by
    unfold mEnum itemsOf at o
    rw [Rs.bind_assoc] at o
    refine tM.bind r0 en o fun d st1 ρ1 H1 v e1 r1 en1 q o1 => ?_
    show ∃ a, [v] = [V.ref a] ∧ _
    cases d with
    | tup ds =>
      simp only [RelD] at q
      obtain ⟨a, us, rfl, hs, rv⟩ := q
      exact ⟨a, rfl, .inr ⟨us, hs, ρ1, st1, ds, r1, rv, o1⟩⟩
    | lst ds =>
      simp only [RelD] at q
      obtain ⟨a, us, rfl, hs, rv⟩ := q
      exact ⟨a, rfl, .inl ⟨us, hs.sq, ρ1, st1, ds, r1, hs, rv, o1⟩⟩
    | _ => exact o1.elim
  refine PyProof.Rows.Call_ (ld_blt I hg hm PyProof.Rows.boot_enumerate (PyProof.Rows.callWith_type1 (thn (ha.run pos pins s σ H _ I q0) fun us s1 ⟨vs, H1, I1, r1, q1⟩ => ?_) hs2 rfl))
  obtain ⟨a, ex, q⟩ := q1
  subst ex
  cases r1 with
  | cons r rr =>
    cases rr
    cases r
    have fin : ∀ b, b = s1.heap.objs.size + 1 ∨ b = s1.heap.objs.size → s1.heap.objs.size ≤ b := fun b e' => by
      rcases e' with z | z
      · rw [z]; exact Nat.le_add_right _ _
      · rw [z]; exact Nat.le_refl _
    rcases q with ⟨us, hq, ρ1, st1, ds, rr, hl, rv, o1⟩ | ⟨us, hq, ρ1, st1, ds, rr, rv, o1⟩
    · obtain ⟨its, rv', p', hz⟩ := I1.list hq
      refine call_enumerate_list p'.isList fun h' he hit hsz hk => wpAny_pyIter_enum he ?_
      have I2 : Inv X pins σ H1 { s1 with heap := h' } := I1.kept (t' := s1.toks) hk
      refine ⟨s1.heap.objs.size + 1, [s1.heap.objs.size + 1, s1.heap.objs.size], _, _, H1, rfl, I2, turn_enum a (s1.heap.objs.size + 1) s1.heap.objs.size, ⟨⟨.none, he⟩, hit, Nat.succ_ne_self _⟩, fun b hb => ?_, o1 ρ1 H1 _ .refl rr (itR_enumL hl rv rr)⟩
      have hle := fin b (by simpa using hb)
      exact I1.fpOk hle (I1.hok.fresh hle)
    · obtain ⟨its, rv', p', hz⟩ := I1.tuple (SqT.of hq)
      refine fx_call_enumerate_tuple (show s1.heap.IsTuple a its.toArray from p') fun h' he hit hsz hk => wpAny_pyIter_enum he ?_
      have I2 : Inv X pins σ H1 { s1 with heap := h' } := I1.kept (t' := s1.toks) hk
      refine ⟨s1.heap.objs.size + 1, [s1.heap.objs.size + 1, s1.heap.objs.size], _, _, H1, rfl, I2, fx_turn_enumT a (s1.heap.objs.size + 1) s1.heap.objs.size, ⟨⟨.none, he⟩, hit, Nat.succ_ne_self _⟩, fun b hb => ?_, o1 ρ1 H1 _ .refl rr (itR_enumT hq rv rr)⟩
      have hle := fin b (by simpa using hb)
      exact I1.fpOk hle (I1.hok.fresh hle)
end Fx

set_option Elab.async false
set_option linter.all false
set_option maxRecDepth 100000
set_option maxHeartbeats 4000000
/-! Fx: raise, try. -/
namespace Fx
open PySem L2 PyProof.Rows

abbrev Suite := Addr → Value → Option Addr → TS
/-- where a suite with a name ends: the name is gone -/
def Ends.gone (D : Ends) (i : Nat) : Ends := { nx := fun σ H => D.nx (σ.set i none) H, rt := D.rt, bk := fun σ H => D.bk (σ.set i none) H, ct := fun σ H => D.ct (σ.set i none) H }
def wHs (K : PySem.W.Frag) (Wout : WX) (D : Ends) : List (Value × Option Nat × Suite) → WX
  | [] => Wout
  | (c, none, ts) :: r => fun cls d σ H => ∃ b, PySem.W.exmOne K cls c = some b ∧ (b = true → ∀ a, H a = none → ts a cls d D σ H) ∧ (b = false → wHs K Wout D r cls d σ H)
  | (c, some i, ts) :: r => fun cls d σ H => ∃ b, PySem.W.exmOne K cls c = some b ∧ (b = true → ∀ a, H a = none → ts a cls d (Ends.gone D i) (σ.set i (some (.ref a))) H) ∧ (b = false → wHs K Wout D r cls d σ H)
def SuiteOk (X : Cx) (ss : List Stmt) (ts : Suite) : Prop := ∀ (a : Addr) (oe : Obj) (cls : Value) (d : Option Addr) (pn : List (Addr × Obj)), Zc cls d oe → (∃ vs, oe.data = .fields vs) → PSs (X.suite a ((a, oe) :: pn)) ss (ts a cls d)
inductive Hs (X : Cx) : List ExceptHandler → List (Value × Option Nat × Suite) → Prop
  | nil : Hs X [] []
  | plain {x : Str} {c : Value} {ts : Suite} {b₀ : Stmt} {ss : List Stmt} {np p : Pos} {hds l} (hc : Names X x c) (hs : SuiteOk X (b₀ :: ss) ts) (r : Hs X hds l) : Hs X (.ExceptHandler (some (.Name x np)) none (b₀ :: ss) p :: hds) ((c, none, ts) :: l)
  | named {x n : Str} {i : Nat} {c : Value} {ts : Suite} {b₀ : Stmt} {ss : List Stmt} {np p : Pos} {hds l} (hc : Names X x c) (hN : X.N.Nodup) (hi : X.N[i]? = some n) (hn : X.env.kindOf n = some .local) (hs : SuiteOk X (b₀ :: ss) ts) (r : Hs X hds l) :
      Hs X (.ExceptHandler (some (.Name x np)) (some n) (b₀ :: ss) p :: hds) ((c, some i, ts) :: l)

section
variable {X : Cx} {body : List Stmt} {h₀ : ExceptHandler} {hds : List ExceptHandler} {l : List (Value × Option Nat × Suite)} {pos : Pos} {tb : WX → TS} {Wout : WX}
/-- what a suite leaves, told outside of it -/
theorem SP.out {pins pn : List (Addr × Obj)} {D : Ends} {f : Flow} {s' : Shared} {a : Addr} {q : Addr × Obj} (ok : X.Ok) (h : SP (X.suite a (q :: (X.pn ++ pins))) pn D f s') : SP X pins D f s' := by
  cases f <;> obtain ⟨x, y, z⟩ := h
  · exact ⟨x, y, z.1.unsuite ok, z.2⟩
  · exact ⟨x, y, z.1.unsuite ok, z.2⟩
  · exact ⟨x, y, z.1.unsuite ok, z.2⟩
  · obtain ⟨H6, S6, r6, q6⟩ := z; exact ⟨x, y, H6, S6.unsuite ok, r6, q6⟩
theorem SP.ofTry {pins pn : List (Addr × Obj)} {D : Ends} {f : Flow} {s' : Shared} {xe : Value → Shared → Prop} (ok : X.Ok) (h : SP (X.tr (X.pn ++ pins) xe) pn D f s') : SP X pins D f s' := by
  cases f <;> obtain ⟨x, y, z⟩ := h
  · exact ⟨x, y, z.1.ofTry ok, z.2⟩
  · exact ⟨x, y, z.1.ofTry ok, z.2⟩
  · exact ⟨x, y, z.1.ofTry ok, z.2⟩
  · obtain ⟨H6, S6, r6, q6⟩ := z; exact ⟨x, y, H6, S6.ofTry ok, r6, q6⟩
theorem ps_try_hs (hs : X.stack = X.env :: X.outer) (hf : X.env.frame = some X.env.locals) (tk : Takes X Wout)
    (hb : ∀ (W : WX) (pn : List (Addr × Obj)) (xe : Value → Shared → Prop), Takes (X.tr pn xe) W → PassesOwn (model X.prog X.w) X.A X.env xe → PSs (X.tr pn xe) body (tb W))
    (hh : Hs X (h₀ :: hds) l) : PS X (.Try body (h₀ :: hds) [] [] pos) (fun D σ H => tb (wHs X.K Wout D l) D σ H) := by
  constructor
  intro pins s σ H D I h
  have ok := I.ok
  have hfr : X.A.frames = some (X.env :: X.outer) := by rw [ok.frames, hs]
  apply wpAny_Try_except
  have caught : ∀ (u : Value) (s' : Shared), XE (X.tr (X.pn ++ pins) fun e s₁ => wpAny (model X.prog X.w) X.A (noteFrame e X.env) (fun _ s₂ => wpAny (model X.prog X.w) X.A (setFlight e none) (fun _ s₃ =>
      wpAny (model X.prog X.w) X.A (handleBy e X.env (h₀ :: hds)) (SP X pins D) X.xe s₃) X.xe s₂) X.xe s₁) (wHs X.K Wout D l) u s' →
      wpAny (model X.prog X.w) X.A (noteFrame u X.env) (fun _ s₂ => wpAny (model X.prog X.w) X.A (setFlight u none) (fun _ s₃ => wpAny (model X.prog X.w) X.A (handleBy u X.env (h₀ :: hds)) (SP X pins D) X.xe s₃) X.xe s₂) X.xe s' := by
    rintro u s' ⟨a, B, sI, pins', σ', H', cls, d, rfl, J', nb, up, sky, na, os, ag, w⟩
    have J : Inv X pins σ' H' sI := J'.ofTry ok
    rw [show (X.tr (X.pn ++ pins) fun e s₁ => wpAny (model X.prog X.w) X.A (noteFrame e X.env) (fun _ s₂ => wpAny (model X.prog X.w) X.A (setFlight e none) (fun _ s₃ =>
      wpAny (model X.prog X.w) X.A (handleBy e X.env (h₀ :: hds)) (SP X pins D) X.xe s₃) X.xe s₂) X.xe s₁).stack = X.env :: X.outer from hs] at sky
    refine Sky.land Zc.steady hfr hf sky fun h3 fl3 up3 => ?_
    have J3 : Inv X pins σ' H' { s' with heap := h3 } := J.landed nb fl3.1 (up.trans up3) os ag
    obtain ⟨oe3, vs3, he3, hz3, hd3⟩ := fl3.there
    have away : a ∉ frs (X.env :: X.outer) := fun hm => by
      obtain ⟨_, o', e', hnf⟩ := fl3.2.2.1.mem hm
      rw [he3] at e'; cases e'
      exact hnf _ hd3
    have nL : a ≠ X.env.locals := by
      rintro rfl
      exact away (List.mem_filterMap.mpr ⟨X.env, List.mem_cons_self, hf⟩)
    have nF : a ∉ X.fs := fun hm => away (by
      obtain ⟨e, he, q⟩ := List.mem_filterMap.mp hm
      exact List.mem_filterMap.mpr ⟨e, List.mem_cons_of_mem _ he, q⟩)
    have S3 := J3.suite he3 hd3 na nL nF
    have LT : PySem.W.Looks (model X.prog X.w) h3 (typeOf (.ref a)) cls := fun A Q E s k q => wpAny_typeOf_ref (k _ _ he3) (by rw [hz3.1]; exact q)
    have test : ∀ {x : Str} {c : Value} {np : Pos}, Names X x c → ∀ {Q : Value → Shared → Prop} {E : Value → Shared → Prop}, Q c { s' with heap := h3 } → wpAny (model X.prog X.w) (X.A.mark (some (.ref a))) (eval (.Name x np) X.env) Q E { s' with heap := h3 } := by
      intro x c np hc Q E q
      rcases hc with ⟨hg, hdbg, hm | ⟨hm, hv, hnn⟩⟩
      · exact ld_glob (X := X.suite a ((a, oe3) :: (X.pn ++ pins))) S3 hg hm q hdbg
      · exact ld_blt (X := X.suite a ((a, oe3) :: (X.pn ++ pins))) S3 hg hm hv q hnn hdbg
    have go : ∀ {hds' l'}, Hs X hds' l' → wHs X.K Wout D l' cls d σ' H' → wpAny (model X.prog X.w) X.A (handleBy (.ref a) X.env hds') (SP X pins D) X.xe { s' with heap := h3 } := by
      intro hds' l' hk
      induction hk with
      | nil =>
        intro w
        apply wpAny_handleBy_nil
        have fin : wpAny (model X.prog X.w) X.A (setFlight (.ref a) X.env.frame) (fun _ s4 => wpAny (model X.prog X.w) X.A (throw (.ref a) : Sem Flow) (SP X pins D) X.xe s4) X.xe { s' with heap := h3 } := by
          rw [hf]
          exact HandSPX.setFlight_upZ fl3 fun h4 hh4 up4 => wpAny_throw (tk _ _ ⟨a, B, sI, pins, σ', H', cls, d, rfl, J, nb, (up.trans up3).trans up4, .inr (.inr (by rw [hs]; exact hh4)), na, os, ag, w⟩)
        obtain ⟨_, _, _, oe, vs, T, _, _, he, _, hd, h1, _⟩ := id fl3
        unfold PySem.passOn
        refine wpAny_bind (wpAny_field he hd h1 ?_)
        rw [if_neg (by simp : ¬ ((Value.ref T == Value.none) = true))]
        first
          | exact wpAny_bind (wpAny_pure (wpAny_bind fin))
          | exact wpAny_bind fin
      | @plain x c ts b₀ ss np p hds2 l2 hc hsu r ih =>
        rintro ⟨b, hb1, hyes, hno⟩
        refine wpAny_handleBy_cons (codeAny_handlers_test (test hc ((PySem.W.exm_one (M := model X.prog X.w) J3.kIn LT hb1).here ?_))) (by intro q; cases q)
        cases b with
        | false => exact ih (hno rfl)
        | true =>
          apply codeAny_handlers_suite
          refine HandSPX.lands_againZ fl3 fun h4 fl4 up4 => ?_
          obtain ⟨oe4, vs4, he4, hz4, hd4⟩ := fl4.there
          have J4 : Inv X pins σ' H' { s' with heap := h4 } := J.landed nb fl4.1 ((up.trans up3).trans up4) os ag
          have S4 := J4.suite he4 hd4 na nL nF
          exact wpAny_mono ((hsu a oe4 cls d (X.pn ++ pins) hz4 ⟨_, hd4⟩).run [] _ _ H' _ S4 (hyes rfl a na)) (fun f s6 hsp => SP.out ok hsp) (fun _ _ z => False.elim z)
      | @named x n i c ts b₀ ss np p hds2 l2 hc hN hi hln hsu r ih =>
        rintro ⟨b, hb1, hyes, hno⟩
        refine wpAny_handleBy_cons (codeAny_handlers_test (test hc ((PySem.W.exm_one (M := model X.prog X.w) J3.kIn LT hb1).here ?_))) (by intro q; cases q)
        cases b with
        | false => exact ih (hno rfl)
        | true =>
          apply codeAny_handlers_suite_as
          refine HandSPX.lands_againZ fl3 fun h4 fl4 up4 => ?_
          obtain ⟨oe4, vs4, he4, hz4, hd4⟩ := fl4.there
          have J4 : Inv X pins σ' H' { s' with heap := h4 } := J.landed nb fl4.1 ((up.trans up3).trans up4) os ag
          have S4 := J4.suite he4 hd4 na nL nF
          refine store_ok (X := X.suite a ((a, oe4) :: (X.pn ++ pins))) (v := .ref a) S4 hN hi (.inl hln) rfl (fun s5 S5 => ?_) (.inr hln)
          refine wpAny_mono ((hsu a oe4 cls d (X.pn ++ pins) hz4 ⟨_, hd4⟩).run [] s5 _ H' _ S5 (hyes rfl a na)) (fun f s6 hsp => ?_) (fun _ _ z => False.elim z)
          have away : ∀ {σ6 : L2.St} {H6 : Hp} {Q : Shared → Prop}, Inv X pins σ6 H6 s6 → (∀ s7, Inv X pins (σ6.set i none) H6 s7 → Q s7) →
              wpAny (model X.prog X.w) X.A (do bindName X.env n .none; unbindBehindTheSuite X.env n p) (fun _ s7 => Q s7) X.xe s6 := fun S6 hq => gone_ok S6 hN hi hln hq
          have hsp' := SP.out ok hsp
          cases f <;> obtain ⟨x6, y6, z6⟩ := hsp'
          · exact away z6.1 fun s7 J7 => ⟨_, _, J7, z6.2⟩
          · exact away z6.1 fun s7 J7 => ⟨_, _, J7, z6.2⟩
          · exact away z6.1 fun s7 J7 => ⟨_, _, J7, z6.2⟩
          · obtain ⟨H6, S6, r6, q6⟩ := z6
            exact away S6 fun s7 J7 => ⟨_, _, _, J7, r6, q6⟩
    exact go hh w
  refine wpAny_mono ((hb (wHs X.K Wout D l) (X.pn ++ pins) _ caught PassesOwn.looking).run [] s σ H D (I.toTry _) h) (fun f s1 hsp => ?_) (fun e s1 he => he)
  have q := SP.ofTry ok hsp
  cases f with
  | next => exact wpAny_execs_nil q
  | brk => exact q
  | cont => exact q
  | ret u => exact q
end

/-! ### the same, on plain data -/
/-- a handler: its class, what it does -/
abbrev Hd := Addr × (Ex → SS)
/-- the handlers, in order; the classes that are known to be apart -/
def sHandle (x : Ex) : List Hd → SS
  | [], τ, st => .er x τ st
  | (c, f) :: r, τ, st => if x.cls = c then f x τ st else sHandle x r τ st
def sTry (leafs : List Addr) (b : SS) (hs : List Hd) : SS := fun τ st => match b τ st with
  | .er x τ' st' => if x.cls ∈ leafs then sHandle x hs τ' st' else .no
  | r => r
/-- the classes are apart: an exception of the one is none of the other -/
def Apart (K : PySem.W.Frag) (leafs : List Addr) : Prop := ∀ a ∈ leafs, ∀ c ∈ leafs, PySem.W.exmOne K (.ref a) (.ref c) = some (decide (a = c))
/-- a suite's reading serves what the handler does -/
def Serves (K : PySem.W.Frag) (Wout : WX) (slot : Option Nat) (ts : Suite) (f : Ex → SS) : Prop :=
  ∀ (D : Ends) (ρ : Mp) (τ : En) (st : Store) (σ : L2.St) (H : Hp) (x : Ex) (cls : Value) (d : Option Addr) (a : Addr), R K ρ st H → EnvR K ρ st.length H τ σ → ExR K ρ st.length H x cls d → H a = none → OutS K Wout ρ st.length H D (f x τ st) →
    match slot with
    | none => ts a cls d D σ H
    | some i => ts a cls d (Ends.gone D i) (σ.set i (some (.ref a))) H
inductive HsD (X : Cx) (Wout : WX) (leafs : List Addr) : List ExceptHandler → List Hd → List (Value × Option Nat × Suite) → Prop
  | nil : HsD X Wout leafs [] [] []
  | plain {x : Str} {c : Addr} {f : Ex → SS} {ts : Suite} {b₀ : Stmt} {ss : List Stmt} {np p : Pos} {hds hl l} (hm : c ∈ leafs) (hc : Names X x (.ref c)) (hs : SuiteOk X (b₀ :: ss) ts) (sv : Serves X.K Wout none ts f) (r : HsD X Wout leafs hds hl l) :
      HsD X Wout leafs (.ExceptHandler (some (.Name x np)) none (b₀ :: ss) p :: hds) ((c, f) :: hl) ((.ref c, none, ts) :: l)
  | named {x n : Str} {i : Nat} {c : Addr} {f : Ex → SS} {ts : Suite} {b₀ : Stmt} {ss : List Stmt} {np p : Pos} {hds hl l} (hm : c ∈ leafs) (hc : Names X x (.ref c)) (hN : X.N.Nodup) (hi : X.N[i]? = some n) (hn : X.env.kindOf n = some .local) (hs : SuiteOk X (b₀ :: ss) ts) (sv : Serves X.K Wout (some i) ts f) (r : HsD X Wout leafs hds hl l) :
      HsD X Wout leafs (.ExceptHandler (some (.Name x np)) (some n) (b₀ :: ss) p :: hds) ((c, f) :: hl) ((.ref c, some i, ts) :: l)
theorem HsD.go {X : Cx} {Wout : WX} {leafs : List Addr} {hds hl l} (h : HsD X Wout leafs hds hl l) (ap : Apart X.K leafs) {x : Ex} (hx : x.cls ∈ leafs) {D : Ends} {ρ' : Mp} {τ' : En} {st' : Store} {σ' : L2.St} {H' : Hp} {cls : Value} {dd : Option Addr}
    (r' : R X.K ρ' st' H') (en' : EnvR X.K ρ' st'.length H' τ' σ') (rx : ExR X.K ρ' st'.length H' x cls dd) (o' : OutS X.K Wout ρ' st'.length H' D (sHandle x hl τ' st')) : wHs X.K Wout D l cls dd σ' H' := by
  induction h with
  | nil => exact o' ρ' H' σ' cls dd .refl r' en' rx
  | @plain _ c f ts _ _ _ _ _ _ _ hm hc hs sv r ih =>
    have hcls := rx.1
    refine ⟨decide (x.cls = c), by rw [hcls]; exact ap _ hx _ hm, fun hd a ha => ?_, fun hd => ?_⟩
    · have e := of_decide_eq_true hd
      unfold sHandle at o'
      rw [if_pos e] at o'
      exact sv D ρ' τ' st' σ' H' x cls dd a r' en' rx ha o'
    · have e := of_decide_eq_false hd
      unfold sHandle at o'
      rw [if_neg e] at o'
      exact ih o'
  | @named _ _ i c f ts _ _ _ _ _ _ _ hm hc hN hi hn hs sv r ih =>
    have hcls := rx.1
    refine ⟨decide (x.cls = c), by rw [hcls]; exact ap _ hx _ hm, fun hd a ha => ?_, fun hd => ?_⟩
    · have e := of_decide_eq_true hd
      unfold sHandle at o'
      rw [if_pos e] at o'
      exact sv D ρ' τ' st' σ' H' x cls dd a r' en' rx ha o'
    · have e := of_decide_eq_false hd
      unfold sHandle at o'
      rw [if_neg e] at o'
      exact ih o'
theorem HsD.hs {X : Cx} {Wout : WX} {leafs : List Addr} {hds hl l} (h : HsD X Wout leafs hds hl l) : Hs X hds l := by
  induction h with
  | nil => exact .nil
  | plain hm hc hs sv r ih => exact .plain hc hs ih
  | named hm hc hN hi hn hs sv r ih => exact .named hc hN hi hn hs ih
theorem es_try {X : Cx} {Wout : WX} {leafs : List Addr} {body : List Stmt} {h₀ : ExceptHandler} {hds : List ExceptHandler} {hl : List Hd} {l} {b : SS} {pos : Pos} (hs : X.stack = X.env :: X.outer) (hf : X.env.frame = some X.env.locals) (tk : Takes X Wout) (ap : Apart X.K leafs)
    (hb : ∀ (W : WX) (pn : List (Addr × Obj)) (xe : Value → Shared → Prop), Takes (X.tr pn xe) W → PassesOwn (model X.prog X.w) X.A X.env xe → EvSs (X.tr pn xe) W body b)
    (hh : HsD X Wout leafs (h₀ :: hds) hl l) : EvS X Wout (.Try body (h₀ :: hds) [] [] pos) (sTry leafs b hl) := by
  refine PS.imp (ps_try_hs hs hf tk (tb := fun W => tSt X.K W b) hb hh.hs) fun D σ H ⟨ρ, τ, st, r0, en, o⟩ => ⟨ρ, τ, st, r0, en, ?_⟩
  unfold sTry at o
  cases q : b τ st with
  | no => rw [q] at o; exact o
  | nx a s => rw [q] at o; exact o
  | rt a s => rw [q] at o; exact o
  | bk a s => rw [q] at o; exact o
  | ct a s => rw [q] at o; exact o
  | er x τ' st' =>
    rw [q] at o
    simp only at o
    split at o
    · rename_i hx
      intro ρ' H' σ' cls dd ex r' en' rx
      exact hh.go ap hx r' en' rx (OutS.shift o r0 ex r')
    · exact o.elim
/-- a suite without a name -/
theorem serves_plain {K : PySem.W.Frag} {Wout : WX} {m : SS} (hno : ∀ τ st x τ' st', m τ st ≠ .er x τ' st') : Serves K Wout none (fun _ _ _ => tSt K W0 m) (fun _ => m) := fun D ρ τ st σ H x cls d a r en rx ha o => ⟨ρ, τ, st, r, en, by
  replace o : OutS K Wout ρ st.length H D (m τ st) := o
  cases q : m τ st with
  | no => rw [q] at o; exact o
  | nx a b => rw [q] at o; exact o
  | rt a b => rw [q] at o; exact o
  | bk a b => rw [q] at o; exact o
  | ct a b => rw [q] at o; exact o
  | er x a b => exact absurd q (hno _ _ _ _ _)⟩
/-- a suite that is not reached -/
def sNever : Ex → SS := fun _ _ _ => .no
theorem serves_never {K : PySem.W.Frag} {Wout : WX} {i : Option Nat} : Serves K Wout i (fun _ _ _ => tNever) sNever := fun D ρ τ st σ H x cls d a r en rx ha o => o.elim
theorem suite_never {X : Cx} {ss : List Stmt} : SuiteOk X ss (fun _ _ _ => tNever) := fun _ _ _ _ _ _ _ => pss_never
/-! ### raise X("..."), X without an __init__ of its own -/
def sRaise (c : Addr) : SS := fun τ st => .er ⟨c, none⟩ τ st
theorem es_raise {X : Cx} {W : WX} {c : Addr} {x m : Str} {j : Nat} {p p2 pos pos2 : Pos} (hc : X.calm = true) (tk : Takes X W) (q : PySem.W.excIn X.K c [.type "ValueError", .type "Exception", .type "BaseException", .type "object"] "ValueError.__new__" = true) (gC : X.mg x = some (.ref c)) (kC : PySem.W.keepIn X.K (.ref c) = true)
    (bC : PySem.W.subIn X.K (.ref c) (.type "BaseException") = some true) (tC : PySem.W.typeIn X.K (.ref c) = some (.type "type")) (hg : Gl X x := by rfl) (hdb : (x == ("__debug__" : Str)) = false := by decide) :
    EvS X W (.Raise (some (.Call (.Name x p) [.Constant (.str m) j p2] [] pos)) none pos2) (sRaise c) :=
  PS.imp (ps_raise hc tk (pmk_own PySem.F.excBase_ValueError q gC kC (raises_own bC tC) hg hdb)) fun D σ H ⟨ρ, τ, st, r0, en, o⟩ => o ρ H σ (.ref c) none .refl r0 en ⟨rfl, trivial⟩
end Fx

set_option Elab.async false
set_option linter.all false
set_option maxRecDepth 100000
set_option maxHeartbeats 4000000
namespace Fx
open PySem L2 PyProof.Rows PySem.Spec
/-! ### tuple * int -/
def rRepF (K : PySem.W.Frag) : R2 := fun x y H Q => ∃ l k xs, x = .ref l ∧ y = .int k ∧ SqT K H l xs ∧ xs ≠ [] ∧ 2 ≤ k ∧ k ≤ 1000000 ∧ k.toNat * xs.length ≤ 1000000 ∧ ∀ p, H p = none → Q (.ref p) (upd H p (.tup (List.replicate k.toNat xs).flatten))
section
variable {X : Cx} {W : WX}
theorem op_repF : OpR X (binaryOp .Mult) (rRepF X.K) := by
  intro pins s σ H x y v u Q I rx ry h
  obtain ⟨l, k, xs, rfl, rfl, hT, hne, h1, h2, hz, q⟩ := h
  cases rx
  obtain ⟨t, rfl⟩ := ry
  obtain ⟨its, r, ⟨⟨cls, dd, data, sl⟩, ho, hc, n, hd⟩, hs⟩ := I.tuple hT
  simp only at hc hd
  subst hc hd
  have hle : its.length = xs.length := r.length.symm
  have hn : its ≠ [] := fun e => hne (by
    rw [e] at hle
    exact List.eq_nil_of_length_eq_zero hle.symm)
  have hi : its.toArray.isEmpty = false := by
    cases its with
    | nil => exact absurd rfl hn
    | cons a b => rfl
  have hsz0 : its.toArray.size = xs.length := by rw [List.size_toArray, hle]
  have hm : ((its.toArray.size : Nat) : Int) * k ≤ 1000000 := by
    rw [hsz0]
    have ek : k = ((k.toNat : Nat) : Int) := by omega
    rw [ek, ← Int.natCast_mul, Nat.mul_comm]
    exact Int.ofNat_le.mpr hz
  have flen : (List.replicate k.toNat its).flatten.length ≤ sizeLine := by
    rw [PyProof.Rows.lm_len_rep_flat, hle, sizeLine_eq]
    omega
  have c0 : (decide (k < -(2 ^ 63)) || decide (k ≥ 2 ^ 63)) = false := by
    rw [decide_eq_false (by omega), decide_eq_false (by omega)] <;> rfl
  have c1 : (its.toArray.isEmpty || k == 1) = false := by
    rw [hi, Bool.false_or]
    exact beq_eq_false_iff_ne.mpr (by omega)
  have c2 : (decide (k ≤ 0) || its.toArray.isEmpty) = false := by
    rw [hi, Bool.or_false]
    exact decide_eq_false (by omega)
  have c4 : Builtin.Tuple.tupleTooMany (((its.toArray.size : Nat) : Int) * k) = false := by
    unfold Builtin.Tuple.tupleTooMany
    rw [sizeLine_eq]
    exact decide_eq_false (by omega)
  refine wpAny_binaryOp_repeat_ref (T := "tuple") (U := "int") (by decide) ⟨_, ho, rfl⟩ (fun s' => typeIs_int s' k t) noFill_tuple_mul F.fills_int_mul F.slot_int_rmul repeat_tuple F.slot_int_index.lookup
    (call_meets F.slot_int_rmul (typeIs_int s k t) F.entry_int_rmul (F.args_int_rmul_2 _ _) (int_rmul_tuple k t l its.toArray n dd sl)
      ⟨ho, rfl, ⟨_, ho, rfl⟩, call_meets F.slot_tuple_mul ⟨_, ho, rfl⟩ F.entry_tuple_mul (F.args_tuple_mul_2 _ _) (tuple_mulW l its.toArray n dd sl k t c0 c1 c2 (by omega) c4 (by rw [size_rep, List.size_toArray]; exact flen)) ⟨ho, ?_⟩⟩)
  rw [size_rep]
  refine ⟨.ref s.heap.objs.size, _, I.laid (t' := s.toks) (o := .tup (List.replicate k.toNat xs).flatten) (fun b ob q => Heap.get?_push_of_some _ q) (Nat.le_refl _) ?_, rfl, q _ (I.hok.fresh (Nat.le_refl _))⟩
  exact ⟨by rw [PyProof.Rows.lm_len_rep_flat, sizeLine_eq]; omega, _, r.rep k.toNat, IsTup.new _ _⟩
theorem RelDs.reps {K : PySem.W.Frag} {ρ : Mp} {n : Nat} {H : Hp} {a : List D} {us : List V} (h : RelDs K ρ n H a us) : ∀ m : Nat, RelDs K ρ n H (List.replicate m a).flatten (List.replicate m us).flatten
  | 0 => .nil
  | m + 1 => by rw [List.replicate_succ, List.replicate_succ, List.flatten_cons, List.flatten_cons]; exact h.append (RelDs.reps h m)
theorem ex_repFits : ∃ f : Nat → Int → Bool, ∀ n k, f n k = true ↔ (n ≠ 0 ∧ 2 ≤ k ∧ k ≤ 1000000 ∧ k.toNat * n ≤ 1000000) := ⟨fun n k => decide (n ≠ 0 ∧ 2 ≤ k ∧ k ≤ 1000000 ∧ k.toNat * n ≤ 1000000), fun i j => decide_eq_true_iff⟩
noncomputable def repFits : Nat → Int → Bool := ex_repFits.choose
theorem repFits_iff {n : Nat} {k : Int} : repFits n k = true ↔ (n ≠ 0 ∧ 2 ≤ k ∧ k ≤ 1000000 ∧ k.toNat * n ≤ 1000000) := ex_repFits.choose_spec n k
noncomputable def fMul : D → D → Store → Rs D := fun x y st => match x, y with
  | .int i, .int j => if mulFits i j = true then .ok (.int (i * j)) st else .no
  | .tup a, .int k => if repFits a.length k = true then .ok (.tup (List.replicate k.toNat a).flatten) st else .no
  | _, _ => .no
theorem opS_mul : OpS X (binaryOp .Mult) fMul := by
  refine ⟨_, op_mulX.or op_repF, fun W σ ρ st H x y vx vy Q r rx ry o => ?_⟩
  cases x with
  | int i =>
    cases y with
    | int j =>
      simp only [fMul] at o
      split at o
      · rename_i h
        simp only [RelD] at rx ry
        exact .inl ⟨i, j, rx, ry, h, o.here r (by simp [reD, RelD])⟩
      · exact o.elim
    | _ => exact o.elim
  | tup a =>
    cases y with
    | int k =>
      simp only [fMul] at o
      split at o
      · rename_i h
        simp only [RelD] at rx ry
        obtain ⟨p, us, rfl, hs, rs⟩ := rx
        have h' := repFits_iff.mp h
        obtain ⟨h0, h1, h2, h3⟩ := h'
        have hl := rs.len
        refine .inr ⟨p, k, us, rfl, ry, SqT.of hs, fun e => h0 (by rw [← hl, e]; rfl), h1, h2, by rw [hl]; exact h3, fun q hq => ?_⟩
        refine o.free r hq ?_
        simp only [reD, RelD]
        refine ⟨q, _, rfl, upd_same, ?_⟩
        have rs' : RelDs X.K ρ st.length (upd H q (.tup (List.replicate k.toNat us).flatten)) a us := RelDs.mono (r.push_ext hq) r a rs
        exact RelDs.reps rs' _
      · exact o.elim
    | _ => exact o.elim
  | _ => exact o.elim
end
section
variable {X : Cx} {W : WX} {a b : Expr} {ma mb : SE} {p p2 pos pos2 : Pos}
theorem ev_tupRg2 (hm2 : X.mg "tuple" = none) (ha : EvE X W a ma) (hb : EvE X W b mb) (hc : X.calm = true) (hm : X.mg "range" = none) (hg : Gl X "range" := by rfl) (hg2 : Gl X "tuple" := by rfl) (na : starEach [a, b] X.env = (false, eval a X.env) :: starEach [b] X.env := by rfl)
    (nb : starEach [b] X.env = (false, eval b X.env) :: starEach [] X.env := by rfl) (hp : (backTo pos2 (starEach [b] X.env)).any (·.1) = false := by rfl)
    (na2 : starEach [Expr.Call (.Name "range" p2) [a, b] [] pos2] X.env = (false, eval (.Call (.Name "range" p2) [a, b] [] pos2) X.env) :: starEach [] X.env := by rfl) :
    EvE X W (.Call (.Name "tuple" p) [.Call (.Name "range" p2) [a, b] [] pos2] [] pos) (mTupOf (mRgL2 ma mb)) := PE.imp (pe_tupRg hc hg2 hm2 (prg_2 hg hm ha hb na nb hp) na2) fun σ H Q ⟨ρ, τ, st, r0, en, oo⟩ => by
  have oo' : Out X.K (reD X.K) W σ ρ st.length H Q ((ma τ st).bind fun d st1 => (mb τ st1).bind fun d2 st2 => (match d, d2 with
    | .int i, .int j => if rgFits i j = true then Rs.ok (rangeD i j) st2 else .no
    | _, _ => .no).bind fun ds st3 => .ok (.tup ds) st3) := by
    unfold mTupOf mRgL2 at oo
    rw [Rs.bind_assoc] at oo
    simp only [Rs.bind_assoc] at oo
    exact oo
  refine tM.bind r0 en oo' fun d st1 ρ1 H1 v e1 r1 en1 q o1 => tM.bind r1 en1 o1 fun d2 st2 ρ2 H2 v2 e2 r2 en2 q2 o2 => ?_
  cases d with
  | int i =>
    cases d2 with
    | int j =>
      simp only [RelD] at q q2
      simp only at o2
      split at o2
      · rename_i h
        refine ⟨i, j, q, q2, rgFits_ok h, fun y hy => Out.free (d := D.tup (rangeD i j)) r2 o2 hy ?_⟩
        simp only [reD, RelD]
        exact ⟨y, _, rfl, upd_same, rg_rel _ _⟩
      · exact o2.elim
    | _ => exact o2.elim
  | _ => exact o2.elim
/-! ### short names -/
abbrev fSub := onII fun i j => .int (i - j)
noncomputable abbrev fFdiv := onIIc divFits fun i j => .int (i / j)
abbrev fMod := onIIc (fun _ j => decide (0 < j)) fun i j => .int (i % j)
abbrev fLt := onII fun i j => .bl (decide (i < j))
abbrev fLe := onII fun i j => .bl (decide (i ≤ j))
abbrev fGt := onII fun i j => .bl (decide (j < i))
abbrev fGe := onII fun i j => .bl (decide (j ≤ i))
abbrev fAll : FB D := onBls fun bs => .bl (bs.all id)
abbrev fAny : FB D := onBls fun bs => .bl (bs.any id)
abbrev fSum : FB D := onInts fun ns => .int ns.sum
abbrev fSorted : FB (List D) := onInts fun ns => (sortI ns).map D.int
/-- nothing is promised -/
theorem fn_none {P : Program} {w : World} {K : PySem.W.Frag} {mg : Str → Option Value} {base : Heap} {f : Addr} {fd : FuncData} {ps : List Str} : FnD P w K mg base 0 f fd ps fun _ _ => .no :=
  ⟨fun vs H Q E ⟨_, _, _, _, _, _, o⟩ => o.elim, fun A outer s H args us vs Q E _ _ _ _ ⟨_, _, _, _, _, _, o⟩ => o.elim⟩
end
end Fx

set_option Elab.async false
set_option linter.all false
set_option maxRecDepth 100000
set_option maxHeartbeats 4000000
namespace Fx
open PySem L2
/-! ### a def's function without what it leaves behind -/
open Classical in
noncomputable def gc (fs : FS) : FS := fun ds st => match fs ds st with
  | .no => .no
  | .ok d st' => if st'.take st.length = st ∨ (st.length ≤ st'.length ∧ WfS st.length (st'.take st.length)) then
      (if WfD st.length d then .ok d (st'.take st.length) else match d with
        | .loc i => (match st'[i]? with
          | some (.lst xs) => if WfDs st.length xs ∧ st.length ≤ i then .ok (.lst xs) (st'.take st.length) else .no
          | _ => .no)
        | _ => .no) else .no
  | .er x st' => if (st'.take st.length = st ∨ (st.length ≤ st'.length ∧ WfS st.length (st'.take st.length))) ∧ (∀ fs, x.fs = some fs → ∀ p ∈ fs, WfD st.length p.2) then .er x (st'.take st.length) else .no
theorem gc_side {st st' : Store} (w : WfS st.length st) (h : st'.take st.length = st ∨ (st.length ≤ st'.length ∧ WfS st.length (st'.take st.length))) : st.length ≤ st'.length ∧ (st'.take st.length).length = st.length ∧ WfS st.length (st'.take st.length) := by
  rcases h with h | ⟨h1, h2⟩
  · have hl : (st'.take st.length).length = st.length := by rw [h]
    refine ⟨?_, hl, by rw [h]; exact w⟩
    rw [List.length_take] at hl; omega
  · exact ⟨h1, by rw [List.length_take]; omega, h2⟩
theorem gc_ref {fs : FS} {ds : List D} {st : Store} (w : WfS st.length st) : Ref st.length (gc fs ds st) (fs ds st) := by
  unfold gc
  cases e : fs ds st with
  | no => exact trivial
  | ok d st' =>
    simp only
    split
    · rename_i h
      obtain ⟨h1, h2, h3⟩ := gc_side w h
      split
      · rename_i hw
        refine ⟨d, st'.drop st.length, by rw [List.take_append_drop], .refl (by rw [h2]; exact hw), by rw [h2]; exact h3, by rw [h2]; exact Nat.le_refl _⟩
      · split
        · rename_i i _
          split
          · rename_i xs hx
            split
            · rename_i hw
              refine ⟨.loc i, st'.drop st.length, by rw [List.take_append_drop], ?_, by rw [h2]; exact h3, by rw [h2]; exact Nat.le_refl _⟩
              rw [List.take_append_drop]
              exact .frz (by rw [h2]; exact hw.2) hx (Cvs.refl (by rw [h2]; exact hw.1))
            · exact trivial
          · exact trivial
        · exact trivial
    · exact trivial
  | er x st' =>
    simp only
    split
    · rename_i h
      obtain ⟨h1, h2, h3⟩ := gc_side w h.1
      exact ⟨st'.drop st.length, by rw [List.take_append_drop], by rw [h2]; exact h.2, by rw [h2]; exact h3, by rw [h2]; exact Nat.le_refl _⟩
    · exact trivial
theorem fn_gc {P : Program} {w : World} {K : PySem.W.Frag} {mg : Str → Option Value} {base : Heap} {k : Nat} {f : Addr} {fd : FuncData} {ps : List Str} {fs : FS} (F : FnD P w K mg base k f fd ps fs) : FnD P w K mg base k f fd ps (gc fs) :=
  fn_ref F fun ds st _ _ w => gc_ref w
theorem take_self {st g : Store} : (st ++ g).take st.length = st := by simp
theorem gc_ok {fs : FS} {ds : List D} {st : Store} {d : D} (g : Store) (h : fs ds st = .ok d (st ++ g)) (hd : WfD st.length d) : gc fs ds st = .ok d st := by
  unfold gc
  rw [h]
  dsimp only
  rw [if_pos (.inl take_self), if_pos hd, take_self]
theorem gc_ok' {fs : FS} {ds : List D} {st st1 : Store} {d : D} (g : Store) (h : fs ds st = .ok d (st1 ++ g)) (hl : st1.length = st.length) (w : WfS st.length st1) (hd : WfD st.length d) : gc fs ds st = .ok d st1 := by
  unfold gc
  rw [h]
  have e : (st1 ++ g).take st.length = st1 := by rw [← hl]; simp
  dsimp only
  rw [if_pos (.inr ⟨by rw [List.length_append, hl]; omega, by rw [e]; exact w⟩), if_pos hd, e]
theorem gc_lst {fs : FS} {ds : List D} {st : Store} {i : Nat} {xs : List D} (g : Store) (h : fs ds st = .ok (.loc i) (st ++ g)) (hi : st.length ≤ i) (hx : (st ++ g)[i]? = some (.lst xs)) (hd : WfDs st.length xs) : gc fs ds st = .ok (.lst xs) st := by
  unfold gc
  rw [h]
  dsimp only
  rw [if_pos (.inl take_self), if_neg (by simp only [WfD]; omega), hx]
  dsimp only
  rw [if_pos ⟨hd, hi⟩, take_self]
theorem gc_er {fs : FS} {ds : List D} {st : Store} {c : Addr} (g : Store) (h : fs ds st = .er ⟨c, none⟩ (st ++ g)) : gc fs ds st = .er ⟨c, none⟩ st := by
  unfold gc
  rw [h]
  dsimp only
  rw [if_pos ⟨.inl take_self, fun fs e => by cases e⟩, take_self]
mutual
/-- no object of the store in it -/
def lf : D → Bool
  | .tup xs => lfs xs
  | .lst xs => lfs xs
  | .loc _ => false
  | _ => true
def lfs : List D → Bool
  | [] => true
  | d :: ds => lf d && lfs ds
end
mutual
theorem wf_lf {n : Nat} : ∀ d : D, lf d = true → WfD n d
  | .tup xs, h => by simp only [lf] at h; simp only [WfD]; exact wf_lfs xs h
  | .lst xs, h => by simp only [lf] at h; simp only [WfD]; exact wf_lfs xs h
  | .loc _, h => by simp [lf] at h
  | .non, _ => by simp [WfD]
  | .bl _, _ => by simp [WfD]
  | .int _, _ => by simp [WfD]
  | .str _, _ => by simp [WfD]
  | .ty _, _ => by simp [WfD]
  | .fn _, _ => by simp [WfD]
theorem wf_lfs {n : Nat} : ∀ ds : List D, lfs ds = true → WfDs n ds
  | [], _ => by simp [WfDs]
  | d :: ds, h => by
    simp only [lfs, Bool.and_eq_true] at h
    simp only [WfDs]
    exact ⟨wf_lf d h.1, wf_lfs ds h.2⟩
end
theorem lfs_all {ds : List D} : lfs ds = ds.all lf := by
  induction ds with
  | nil => rfl
  | cons d ds ih => simp only [lfs, List.all_cons, ih]
@[simp] theorem lf_non : lf .non = true := rfl
@[simp] theorem lf_bl {b} : lf (.bl b) = true := rfl
@[simp] theorem lf_int {b} : lf (.int b) = true := rfl
@[simp] theorem lf_str {b} : lf (.str b) = true := rfl
@[simp] theorem lf_fn {b} : lf (.fn b) = true := rfl
@[simp] theorem lf_loc {b} : lf (.loc b) = false := rfl
@[simp] theorem lf_tup {b} : lf (.tup b) = b.all lf := by rw [lf, lfs_all]
@[simp] theorem lf_lst {b} : lf (.lst b) = b.all lf := by rw [lf, lfs_all]

/-! ### evaluation by simp -/
section
variable {σ τ : En} {st : Store} {m ma mb mc mo mi : SE} {ms : SA} {t u : SB} {a b : SS} {fs : FS} {i j k : Nat} {d x y : D}
@[simp] theorem x_mVar : mVar i σ st = match σ[i]? with
  | some (some d) => .ok d st
  | _ => .no := rfl
@[simp] theorem x_mC : mC d σ st = .ok d st := rfl
@[simp] theorem x_mNil : mNil σ st = .ok [] st := rfl
@[simp] theorem x_mCons : mCons m ms σ st = (m σ st).bind fun d st1 => (ms σ st1).bind fun ds st2 => .ok (d :: ds) st2 := rfl
@[simp] theorem x_mOp {f : D → D → Store → Rs D} : mOp f ma mb σ st = (ma σ st).bind fun x st1 => (mb σ st1).bind fun y st2 => f x y st2 := rfl
@[simp] theorem x_mB : mB m σ st = (m σ st).bind fun d st => match d with
  | .bl b => .ok b st
  | _ => .no := rfl
@[simp] theorem x_mAnd : mAnd t u σ st = (t σ st).bind fun c st1 => if c = true then u σ st1 else .ok false st1 := rfl
@[simp] theorem x_mOr : mOr t u σ st = (t σ st).bind fun c st1 => if c = true then .ok true st1 else u σ st1 := rfl
@[simp] theorem x_mNot : mNot t σ st = (t σ st).bind fun c st1 => .ok (!c) st1 := rfl
@[simp] theorem x_mAndV : mAndV ma mb σ st = (ma σ st).bind fun x st1 => match x with
  | .bl true => mb σ st1
  | .bl false => .ok (.bl false) st1
  | _ => .no := rfl
@[simp] theorem x_mOrV : mOrV ma mb σ st = (ma σ st).bind fun x st1 => match x with
  | .bl false => mb σ st1
  | .bl true => .ok (.bl true) st1
  | _ => .no := rfl
@[simp] theorem x_mNotV : mNotV ma σ st = (ma σ st).bind fun x st1 => match x with
  | .bl b => .ok (.bl (!b)) st1
  | _ => .no := rfl
@[simp] theorem x_mIf : mIf t ma mb σ st = (t σ st).bind fun c st1 => if c = true then ma σ st1 else mb σ st1 := rfl
@[simp] theorem x_mTup : mTup ms σ st = (ms σ st).bind fun ds st1 => .ok (.tup ds) st1 := rfl
@[simp] theorem x_mNew : mNew ms σ st = (ms σ st).bind fun ds st1 => .ok (.loc st1.length) (st1 ++ [.lst ds]) := rfl
@[simp] theorem x_mFrz : mFrz ms σ st = (ms σ st).bind fun ds st1 => .ok (.lst ds) st1 := rfl
@[simp] theorem x_sSkip : sSkip τ st = .nx τ st := rfl
@[simp] theorem x_sSeq : sSeq a b τ st = (a τ st).seq b := rfl
@[simp] theorem x_sExpr : sExpr m τ st = (m τ st).go τ fun _ st1 => .nx τ st1 := rfl
@[simp] theorem x_sRet : sRet m τ st = (m τ st).go τ fun d st1 => .rt d st1 := rfl
@[simp] theorem x_sRetN : sRetN τ st = .rt .non st := rfl
@[simp] theorem x_sIf : sIf t a b τ st = (t τ st).go τ fun c st1 => if c = true then a τ st1 else b τ st1 := rfl
@[simp] theorem x_sSet : sSet i m τ st = (m τ st).go τ fun d st1 => .nx (τ.set i (some d)) st1 := rfl
@[simp] theorem x_sBrk : sBrk τ st = .bk τ st := rfl
@[simp] theorem x_sCnt : sCnt τ st = .ct τ st := rfl
@[simp] theorem x_gN : gN i d τ = some (τ.set i (some d)) := rfl
@[simp] theorem x_gsNil : gsNil [] τ = some τ := rfl
@[simp] theorem x_gsCons {g : SG} {gs : List D → En → Option En} {ds : List D} : gsCons g gs (d :: ds) τ = (g d τ).bind (gs ds) := rfl
@[simp] theorem x_gT {gs : List D → En → Option En} {ds : List D} : gT gs (.tup ds) τ = gs ds τ := rfl
@[simp] theorem x_sAsg {g : SG} : sAsg g m τ st = (m τ st).go τ fun d st1 => match g d τ with
  | some τ' => .nx τ' st1
  | none => .no := rfl
@[simp] theorem x_sPar : sPar i j ma mb τ st = (ma τ st).go τ fun d st1 => (mb τ st1).go τ fun d2 st2 => .nx ((τ.set i (some d)).set j (some d2)) st2 := rfl
@[simp] theorem x_sPar3 : sPar3 i j k ma mb mc τ st = (ma τ st).go τ fun d st1 => (mb τ st1).go τ fun d2 st2 => (mc τ st2).go τ fun d3 st3 => .nx (((τ.set i (some d)).set j (some d2)).set k (some d3)) st3 := rfl
@[simp] theorem x_mItems : mItems m σ st = (m σ st).bind fun d st => match d with
  | .tup ds => .ok ds st
  | .lst ds => .ok ds st
  | _ => .no := rfl
@[simp] theorem x_mRng1 : mRng1 m σ st = (m σ st).bind fun d st1 => match d with
  | .int j => if w62 j = true then .ok (rangeD 0 j) st1 else .no
  | _ => .no := rfl
@[simp] theorem x_mRng2 : mRng2 ma mb σ st = (ma σ st).bind fun d st1 => (mb σ st1).bind fun d2 st2 => match d, d2 with
  | .int i, .int j => if w62 i = true ∧ w62 j = true then .ok (rangeD i j) st2 else .no
  | _, _ => .no := rfl
@[simp] theorem x_forS_nil {g : SG} : forS g a [] τ st = .nx τ st := rfl
theorem x_forS_cons {g : SG} {ds : List D} : forS g a (d :: ds) τ st = match g d τ with
  | none => .no
  | some τ1 => (a τ1 st).loop (forS g a ds) := rfl
@[simp] theorem x_sFor {g : SG} {mi : SA} : sFor mi g a τ st = (mi τ st).go τ fun ds st1 => forS g a ds τ st1 := rfl
@[simp] theorem x_mYes : mYes τ st = .ok true st := rfl
@[simp] theorem x_mComp {mi : SA} {g : SG} {vs : List Nat} : mComp mi g t m vs τ st = (mi τ st).bind fun ds st1 => compS g t m vs ds τ st1 [] := rfl
@[simp] theorem x_mCall : mCall fs ms τ st = (ms τ st).bind fs := rfl
@[simp] theorem x_onII {f : Int → Int → D} {i j : Int} : onII f (.int i) (.int j) st = .ok (f i j) st := rfl
@[simp] theorem x_onIIc {c : Int → Int → Bool} {f : Int → Int → D} {i j : Int} : onIIc c f (.int i) (.int j) st = if c i j = true then .ok (f i j) st else .no := rfl
@[simp] theorem x_addI {i j : Int} : fAdd (.int i) (.int j) st = .ok (.int (i + j)) st := rfl
@[simp] theorem x_addT {a b : List D} : fAdd (.tup a) (.tup b) st = if szFits (a.length + b.length) = true then .ok (.tup (a ++ b)) st else .no := rfl
@[simp] theorem x_mulI {i j : Int} : fMul (.int i) (.int j) st = if mulFits i j = true then .ok (.int (i * j)) st else .no := rfl
@[simp] theorem x_mulT {a : List D} {k : Int} : fMul (.tup a) (.int k) st = if repFits a.length k = true then .ok (.tup (List.replicate k.toNat a).flatten) st else .no := rfl
@[simp] theorem x_mNeg : mNeg m σ st = (m σ st).bind fun d st1 => match d with
  | .int i => .ok (.int (-i)) st1
  | _ => .no := rfl
@[simp] theorem x_mChain {f g : D → D → Store → Rs D} : mChain f g ma mb mc σ st = (ma σ st).bind fun x st1 => (mb σ st1).bind fun y st2 => (f x y st2).bind fun z st3 => match z with
  | .bl true => (mc σ st3).bind fun u st4 => g y u st4
  | .bl false => .ok (.bl false) st3
  | _ => .no := rfl
@[simp] theorem x_mFn {α : Type} {fb : FB α} : mFn fb ms σ st = (ms σ st).bind fb := rfl
@[simp] theorem x_lenT {xs : List D} : fLen [.tup xs] st = .ok (.int xs.length) st := rfl
@[simp] theorem x_lenL {xs : List D} : fLen [.lst xs] st = .ok (.int xs.length) st := rfl
theorem x_lenLoc {xs : List D} (h : st[i]? = some (.lst xs)) : fLen [.loc i] st = .ok (.int xs.length) st := by simp [fLen, seqOf, h]
@[simp] theorem x_abs {i : Int} : fAbs [.int i] st = .ok (.int (if i < 0 then -i else i)) st := rfl
@[simp] theorem x_int {i : Int} : fInt [.int i] st = .ok (.int i) st := rfl
@[simp] theorem x_tupleT {xs : List D} : fTuple [.tup xs] st = .ok (.tup xs) st := rfl
@[simp] theorem x_tupleL {xs : List D} : fTuple [.lst xs] st = .ok (.tup xs) st := rfl
theorem x_tupleLoc {xs : List D} (h : st[i]? = some (.lst xs)) : fTuple [.loc i] st = .ok (.tup xs) st := by simp [fTuple, seqOf, h]
@[simp] theorem x_listT {xs : List D} : fList [.tup xs] st = .ok xs st := rfl
@[simp] theorem x_listL {xs : List D} : fList [.lst xs] st = .ok xs st := rfl
theorem x_listLoc {xs : List D} (h : st[i]? = some (.lst xs)) : fList [.loc i] st = .ok xs st := by simp [fList, seqOf, h]
@[simp] theorem x_onBls {f : List Bool → D} {bs : List Bool} : onBls f [.lst (bs.map .bl)] st = .ok (f bs) st := by simp [onBls, listOf]
@[simp] theorem x_onBls0 {f : List Bool → D} : onBls f [.lst []] st = .ok (f []) st := by simp [onBls, listOf, blsOf]
@[simp] theorem x_onInts {α : Type} {f : List Int → α} {bs : List Int} : onInts f [.lst (bs.map .int)] st = .ok (f bs) st := by simp [onInts, listOf]
@[simp] theorem x_ixT {xs : List D} {k : Int} : fIx (.tup xs) (.int k) st = match atI xs k with
  | some d => .ok d st
  | none => .no := by simp only [fIx, seqOf] <;> (cases atI xs k <;> rfl)
@[simp] theorem x_ixL {xs : List D} {k : Int} : fIx (.lst xs) (.int k) st = match atI xs k with
  | some d => .ok d st
  | none => .no := by simp only [fIx, seqOf] <;> (cases atI xs k <;> rfl)
theorem x_ixLoc {xs : List D} {k : Int} (h : st[i]? = some (.lst xs)) : fIx (.loc i) (.int k) st = match atI xs k with
  | some d => .ok d st
  | none => .no := by simp only [fIx, seqOf, h] <;> (cases atI xs k <;> rfl)
@[simp] theorem x_mNoPart : mNoPart σ st = .ok none st := rfl
@[simp] theorem x_mPart : mPart m σ st = (m σ st).bind fun d st1 => match d with
  | .int i => .ok (some i) st1
  | _ => .no := rfl
@[simp] theorem x_slT {xs : List D} {lo hi : Option Int} : fSl (.tup xs) lo hi st = .ok (.tup (cutD xs lo hi)) st := rfl
@[simp] theorem x_slL {xs : List D} {lo hi : Option Int} : fSl (.lst xs) lo hi st = .ok (.lst (cutD xs lo hi)) st := by simp [fSl, listOf]
@[simp] theorem x_mSl {f : D → Option Int → Option Int → Store → Rs D} {ml mh : SO} : mSl f m ml mh σ st = (m σ st).bind fun d st1 => (ml σ st1).bind fun lo st2 => (mh σ st2).bind fun hi st3 => f d lo hi st3 := rfl
@[simp] theorem x_sSub {f : D → D → D → Store → Option Store} : sSub f mo mi m τ st = (m τ st).go τ fun d st1 => (mo τ st1).go τ fun ob st2 => (mi τ st2).go τ fun k st3 => match f ob k d st3 with
  | some st4 => .nx τ st4
  | none => .no := rfl
@[simp] theorem x_mDNewK : mDNewK σ st = .ok (.loc st.length) (st ++ [.dk []]) := rfl
@[simp] theorem x_mMeth {fm : FM} : mMeth fm mo ms σ st = (mo σ st).bind fun ob st1 => match listOf ob st1 with
  | some _ => (ms σ st1).bind fun ds st2 => fm ob ds st2
  | none => .no := rfl
@[simp] theorem x_mRgL1 : mRgL1 m σ st = (m σ st).bind fun d st1 => match d with
  | .int j => if rgFits 0 j = true then .ok (rangeD 0 j) st1 else .no
  | _ => .no := rfl
@[simp] theorem x_mRgL2 : mRgL2 ma mb σ st = (ma σ st).bind fun d st1 => (mb σ st1).bind fun d2 st2 => match d, d2 with
  | .int i, .int j => if rgFits i j = true then .ok (rangeD i j) st2 else .no
  | _, _ => .no := rfl
@[simp] theorem x_mTupOf : mTupOf ms σ st = (ms σ st).bind fun ds st1 => .ok (.tup ds) st1 := rfl
@[simp] theorem x_mMulD : mMulD ms mb σ st = (ms σ st).bind fun xs st1 => (mb σ st1).bind fun y st2 => match y with
  | .int k => if w63 k = true ∧ szFits (xs.length * k.toNat) = true then .ok (List.replicate k.toNat xs).flatten st2 else .no
  | _ => .no := rfl
@[simp] theorem x_mIsi {T : Ty} : mIsi m T σ st = (m σ st).bind fun d st1 => match tyD d st1 with
  | some t => .ok (.bl (t.sub T)) st1
  | none => .no := rfl
@[simp] theorem x_mIsi2 {T U : Ty} : mIsi2 m T U σ st = (m σ st).bind fun d st1 => match tyD d st1 with
  | some t => .ok (.bl (t.sub T || t.sub U)) st1
  | none => .no := rfl
@[simp] theorem x_ty_non : tyD .non st = some .non := rfl
@[simp] theorem x_ty_bl {b : Bool} : tyD (.bl b) st = some .bool := rfl
@[simp] theorem x_ty_int {b : Int} : tyD (.int b) st = some .int := rfl
@[simp] theorem x_ty_str {b : Str} : tyD (.str b) st = some .str := rfl
@[simp] theorem x_ty_tup {b : List D} : tyD (.tup b) st = some .tup := rfl
@[simp] theorem x_ty_lst {b : List D} : tyD (.lst b) st = some .list := rfl
@[simp] theorem x_sub {a b : Ty} : Ty.sub a b = (decide (a = b) || (decide (a = .bool) && decide (b = .int))) := rfl
@[simp] theorem x_mEnum : mEnum m σ st = (m σ st).bind fun d st => match d with
  | .tup ds => .ok (enumD ds) st
  | .lst ds => .ok (enumD ds) st
  | _ => .no := by
  unfold mEnum itemsOf
  rw [Rs.bind_assoc]
  congr 1
  funext d st
  cases d <;> rfl
@[simp] theorem x_sRaise {c : Addr} : sRaise c τ st = .er ⟨c, none⟩ τ st := rfl
@[simp] theorem x_sTry {leafs : List Addr} {hs : List Hd} : sTry leafs a hs τ st = match a τ st with
  | .er x τ' st' => if x.cls ∈ leafs then sHandle x hs τ' st' else .no
  | r => r := rfl
@[simp] theorem x_sHandle {x : Ex} {c : Addr} {f : Ex → SS} {r : List Hd} : sHandle x ((c, f) :: r) τ st = if x.cls = c then f x τ st else sHandle x r τ st := rfl
@[simp] theorem x_fIs_bl {a b : Bool} : fIs (.bl a) (.bl b) st = .ok (.bl (decide (a = b))) st := rfl
@[simp] theorem x_fIs_n : fIs .non .non st = .ok (.bl true) st := rfl
@[simp] theorem x_fIs_b {a : Bool} : fIs (.bl a) .non st = .ok (.bl false) st := rfl
@[simp] theorem x_fIs_i {a : Int} : fIs (.int a) .non st = .ok (.bl false) st := rfl
@[simp] theorem x_fIs_s {a : Str} : fIs (.str a) .non st = .ok (.bl false) st := rfl
@[simp] theorem x_fIs_t {a : List D} : fIs (.tup a) .non st = .ok (.bl false) st := rfl
@[simp] theorem x_fIs_l {a : List D} : fIs (.lst a) .non st = .ok (.bl false) st := rfl
@[simp] theorem x_fIs_f {a : Addr} : fIs (.fn a) .non st = .ok (.bl false) st := rfl
@[simp] theorem x_fIsNot : fIsNot x y st = (fIs x y st).bind fun d st1 => match d with
  | .bl b => .ok (.bl (!b)) st1
  | _ => .no := rfl
theorem runF_rt {N : List Str} {m : SS} {ds : List D} {st' : Store} (h : m (ds.map some ++ List.replicate (N.length - ds.length) none) st = .rt d st') : runF N m ds st = .ok d st' := by simp [runF, h]
theorem runF_nx {N : List Str} {m : SS} {ds : List D} {τ' : En} {st' : Store} (h : m (ds.map some ++ List.replicate (N.length - ds.length) none) st = .nx τ' st') : runF N m ds st = .ok .non st' := by simp [runF, h]
theorem runF_er {N : List Str} {m : SS} {ds : List D} {x : Ex} {τ' : En} {st' : Store} (h : m (ds.map some ++ List.replicate (N.length - ds.length) none) st = .er x τ' st') : runF N m ds st = .er x st' := by simp [runF, h]
theorem w62_of {j : Int} (h1 : -1000000000 ≤ j) (h2 : j ≤ 1000000000) : w62 j = true := w62_iff.mpr (by omega)
theorem w63_of {j : Int} (h1 : -1000000000 ≤ j) (h2 : j ≤ 1000000000) : w63 j = true := w63_iff.mpr (by omega)
theorem rgFits_of {i j : Int} (h1 : -1000000 ≤ i) (h2 : i ≤ 1000000) (h3 : -1000000 ≤ j) (h4 : j ≤ 1000000) : rgFits i j = true := by
  exact (ex_rgFits.choose_spec i j).mpr ⟨by omega, by omega, by omega, by omega, by omega⟩
theorem szFits_of {n : Nat} (h : n ≤ 1000) : szFits n = true := szFits_iff.mpr (Nat.le_of_lt (small1000 h))
theorem szFits_of1 {n : Nat} (h : n ≤ 1000) : szFits (n + 1) = true := szFits_lt.mpr (small1000 h)
/-! the store, seen from its first part -/
@[simp] theorem st_get {l : Store} : (st ++ l)[st.length + k]? = l[k]? := by rw [List.getElem?_append_right (by omega)]; congr 1; omega
@[simp] theorem st_get0 {l : Store} : (st ++ l)[st.length]? = l[0]? := st_get (k := 0)
@[simp] theorem st_set {l : Store} {o : O} : (st ++ l).set (st.length + k) o = st ++ l.set k o := by rw [List.set_append_right _ _ (by omega)]; congr 2; omega
@[simp] theorem st_set0 {l : Store} {o : O} : (st ++ l).set st.length o = st ++ l.set 0 o := st_set (k := 0)
theorem st_old {l : Store} {o : O} (h : st[i]? = some o) : (st ++ l)[i]? = some o := by rw [List.getElem?_append_left (List.getElem?_eq_some_iff.mp h).1]; exact h
end
end Fx

set_option Elab.async false
set_option linter.all false
set_option maxRecDepth 100000
set_option maxHeartbeats 4000000
namespace Fx
open PySem L2
/-! ### the end -/
def spLaw (K : PySem.W.Frag) : Sp := fun vs H Q _ => ∃ (a : Addr) (ns : List Int), vs = [.ref a] ∧ SqL K H a (ns.map V.int) ∧ ns.length ≤ 63 ∧ ∀ H', Q (.bl true) H'
theorem relDs_ints {K : PySem.W.Frag} {ρ : Mp} {n : Nat} {H : Hp} : ∀ ns : List Int, RelDs K ρ n H (ns.map D.int) (ns.map V.int)
  | [] => .nil
  | i :: r => .cons (by simp [RelD]) (relDs_ints r)
theorem law_imp {P : Program} {w : World} {K : PySem.W.Frag} {mg : Str → Option Value} {base : Heap} {k : Nat} {f : Addr} {fd : FuncData} {x : Str} {fs : FS} (F : FnD P w K mg base k f fd [x] fs)
    (h : ∀ ns : List Int, ns.length ≤ 63 → ∃ st', fs [.lst (ns.map D.int)] [] = .ok (.bl true) st') : FnOk P w K mg base (L2.CX P w) k f fd [x] (spLaw K) := by
  refine FnOk.imp F fun vs H Q E ⟨a, ns, e, hS, hl, q⟩ => ?_
  obtain ⟨st', e2⟩ := h ns hl
  refine ⟨⟨fun _ => 0, fun _ => False⟩, [], [.lst (ns.map D.int)], rfl, ⟨fun i o h => by simp at h, fun i j h => absurd h (Nat.not_lt_zero _), fun a h => h.elim, fun i h => absurd h (Nat.not_lt_zero _)⟩, ?_, ?_⟩
  · rw [e]
    refine .cons ?_ .nil
    simp only [RelD]
    refine ⟨a, _, rfl, ?_, relDs_ints ns⟩
    rcases hS with h | h
    · exact .inl ⟨h, fun i hi => absurd hi (Nat.not_lt_zero _), fun z => z⟩
    · exact .inr h
  · rw [e2]
    intro ρ' H' v _ _ rd
    simp only [reD, RelD] at rd
    rw [rd]; exact q H'
theorem cx_never {P : Program} {w : World} {o : List PySem.Env} {H : Hp} {s : Shared} {e : Value} {s' : Shared} (h : L2.CX P w o H s (fun _ _ _ => False) e s') : False := by
  obtain ⟨_, _, _, _, _, _, _, _, _, _, _, _, z⟩ := h
  exact z
theorem walkF {l : PySem.W.OpenLaw} {k : Nat} {q : Program} {loose : List Str} {XP : (Str → Option Value) → Heap → Prop} {YP : World → Heap → Prop} {d : DefRec} {K : Params → PySem.W.Frag} (hn : l.most = some 63) (hdf : d.params.defaults = [])
    (hr : Room k callerA) (hY : ∀ (w : World) (h : Heap), YP w h → (K w.params).In h)
    (F : ∀ (w : World) (mg : Str → Option Value) (fa : Addr) (h : Heap), (K w.params).In h → h.Ns mainGlobals mg → mg d.name = some (.ref fa) →
      ∃ fd : FuncData, (∀ (s : Shared) (u : Value), BindsTo s fd ⟨[u], []⟩ [("script", u)]) ∧ ∀ base : Heap, (K w.params).In base → base.Ns mainGlobals mg → FnOk l.prog w (K w.params) mg base (L2.CX l.prog w) k fa fd ["script"] (spLaw (K w.params))) :
    PySem.W.WalkO q loose XP YP l.row.toRowW d [] (fun f vs => PySem.call f vs) :=
  L2.walk_of (n := 63) (k := k) (x := "script") (CX := fun w => L2.CX l.prog w) (sp := fun w => spLaw (K w.params)) hn (by decide) hdf hr hY F (fun _ _ a ns hl _ hS => ⟨a, ns, rfl, hS, hl, fun _ => rfl⟩) fun _ _ _ _ _ z => cx_never z
theorem exm_own {K : PySem.W.Frag} {S C : Addr} {b : Bool} (h1 : PySem.W.subIn K (.ref S) (.type "BaseException") = some true) (h2 : PySem.W.isClsIn K C = true) (h3 : PySem.W.typeIn K (.ref C) = some (.type "type")) (h5 : PySem.W.subIn K (.ref C) (.type "BaseException") = some true) (h4 : PySem.W.subIn K (.ref S) (.ref C) = some b) :
    PySem.W.exmOne K (.ref S) (.ref C) = some b := by
  have e1 : (PySem.W.subIn K (.ref C) (.type "BaseException") == some true) = true := by rw [h5] <;> rfl
  have e2 : ((PySem.W.clsIn K C).isSome && PySem.W.typeIn K (.ref C) == some (.type "type")) = true := by
    have h2' : (PySem.W.clsIn K C).isSome = true := h2
    rw [h2', h3] <;> rfl
  show (if (PySem.W.subIn K (.ref C) (.type "BaseException") == some true) = true then (if ((PySem.W.clsIn K C).isSome && PySem.W.typeIn K (.ref C) == some (.type "type")) = true then PySem.W.subIn K (.ref S) (.ref C) else none) else none) = some b
  rw [if_pos e1, if_pos e2]
  exact h4
theorem apart1 {K : PySem.W.Frag} {C : Addr} (h : PySem.W.exmOne K (.ref C) (.ref C) = some true) : Apart K [C] := fun a ha c hc => by
  rw [List.mem_singleton] at ha hc
  subst ha hc
  rw [decide_eq_true rfl]; exact h
theorem apart2 {K : PySem.W.Frag} {C E : Addr} (hne : C ≠ E) (h : PySem.W.exmOne K (.ref C) (.ref C) = some true) (h2 : PySem.W.exmOne K (.ref E) (.ref E) = some true) (h3 : PySem.W.exmOne K (.ref C) (.ref E) = some false) (h4 : PySem.W.exmOne K (.ref E) (.ref C) = some false) : Apart K [C, E] := fun a ha c hc => by
  simp only [List.mem_cons, List.not_mem_nil, or_false] at ha hc
  rcases ha with rfl | rfl <;> rcases hc with rfl | rfl
  · rw [decide_eq_true rfl]; exact h
  · rw [decide_eq_false hne]; exact h3
  · rw [decide_eq_false (Ne.symm hne)]; exact h4
  · rw [decide_eq_true rfl]; exact h2
end Fx

set_option Elab.async false
set_option linter.all false
set_option maxRecDepth 100000
set_option maxHeartbeats 4000000
namespace Fx
open PySem L2
/-! ### loops -/
section
variable {g : SG} {b : SS} {t : SB} {m : SE} {vs : List Nat} {τ : En}
@[simp] theorem wipeE_nil {σ : En} : wipeE σ [] = σ := rfl
@[simp] theorem wipeE_cons {σ : En} {v : Nat} {vs : List Nat} : wipeE σ (v :: vs) = (wipeE σ vs).set v none := rfl
theorem forS_ind {P : List D → En → Store → Prop} (step : ∀ d ds τ st, P (d :: ds) τ st → ∃ τ1, g d τ = some τ1 ∧ ∃ τ2 st2, (b τ1 st = .nx τ2 st2 ∨ b τ1 st = .ct τ2 st2) ∧ P ds τ2 st2) :
    ∀ ds τ st, P ds τ st → ∃ τ' st', forS g b ds τ st = .nx τ' st' ∧ P [] τ' st'
  | [], τ, st, h => ⟨τ, st, rfl, h⟩
  | d :: ds, τ, st, h => by
    obtain ⟨τ1, e1, τ2, st2, e2, h2⟩ := step d ds τ st h
    obtain ⟨τ', st', e3, h3⟩ := forS_ind step ds τ2 st2 h2
    refine ⟨τ', st', ?_, h3⟩
    rw [x_forS_cons, e1]
    rcases e2 with e2 | e2 <;> · dsimp only; rw [e2]; exact e3
theorem forS_ret {P : List D → En → Store → Prop} {Q : D → Store → Prop} (step : ∀ d ds τ st, P (d :: ds) τ st → ∃ τ1, g d τ = some τ1 ∧ ((∃ τ2 st2, (b τ1 st = .nx τ2 st2 ∨ b τ1 st = .ct τ2 st2) ∧ P ds τ2 st2) ∨ ∃ x st2, b τ1 st = .rt x st2 ∧ Q x st2)) :
    ∀ ds τ st, P ds τ st → (∃ τ' st', forS g b ds τ st = .nx τ' st' ∧ P [] τ' st') ∨ ∃ x st', forS g b ds τ st = .rt x st' ∧ Q x st'
  | [], τ, st, h => .inl ⟨τ, st, rfl, h⟩
  | d :: ds, τ, st, h => by
    obtain ⟨τ1, e1, h1⟩ := step d ds τ st h
    rcases h1 with ⟨τ2, st2, e2, h2⟩ | ⟨x, st2, e2, h2⟩
    · have e : forS g b (d :: ds) τ st = forS g b ds τ2 st2 := by
        rw [x_forS_cons, e1]
        rcases e2 with e2 | e2 <;> · dsimp only; rw [e2]; rfl
      rw [e]
      exact forS_ret step ds τ2 st2 h2
    · exact .inr ⟨x, st2, by rw [x_forS_cons, e1]; dsimp only; rw [e2]; rfl, h2⟩
theorem compS_ind {P : List D → Store → List D → Prop} (step : ∀ d ds st acc, P (d :: ds) st acc → ∃ τ1, g d (wipeE τ vs) = some τ1 ∧ ((∃ st1 y st2, t τ1 st = .ok true st1 ∧ m τ1 st1 = .ok y st2 ∧ acc.length < sizeLine ∧ P ds st2 (acc ++ [y])) ∨ ∃ st1, t τ1 st = .ok false st1 ∧ P ds st1 acc)) :
    ∀ ds st acc, P ds st acc → ∃ st' acc', compS g t m vs ds τ st acc = .ok acc' st' ∧ P [] st' acc'
  | [], st, acc, h => ⟨st, acc, rfl, h⟩
  | d :: ds, st, acc, h => by
    obtain ⟨τ1, e1, h1⟩ := step d ds st acc h
    rcases h1 with ⟨st1, y, st2, e2, e3, hl, h2⟩ | ⟨st1, e2, h2⟩
    · obtain ⟨st', acc', e4, h3⟩ := compS_ind step ds st2 _ h2
      exact ⟨st', acc', by rw [compS, e1]; dsimp only; rw [e2]; dsimp only; rw [e3]; dsimp only; rw [if_pos hl]; exact e4, h3⟩
    · obtain ⟨st', acc', e4, h3⟩ := compS_ind step ds st1 _ h2
      exact ⟨st', acc', by rw [compS, e1]; dsimp only; rw [e2]; exact e4, h3⟩
theorem compS_map {f : D → D} {st : Store} : ∀ (ds acc : List D), (∀ d ∈ ds, ∃ τ1, g d (wipeE τ vs) = some τ1 ∧ t τ1 st = .ok true st ∧ m τ1 st = .ok (f d) st) → acc.length + ds.length ≤ sizeLine → compS g t m vs ds τ st acc = .ok (acc ++ ds.map f) st
  | [], acc, _, _ => by simp [compS]
  | d :: ds, acc, h, hl => by
    obtain ⟨τ1, e1, e2, e3⟩ := h d List.mem_cons_self
    have hl' : acc.length < sizeLine := by simp only [List.length_cons] at hl; omega
    rw [compS, e1]
    dsimp only
    rw [e2]
    dsimp only
    rw [e3]
    dsimp only
    rw [if_pos hl', compS_map ds _ (fun d hd => h d (List.mem_cons_of_mem _ hd)) (by simp only [List.length_append, List.length_cons, List.length_nil] at hl ⊢; omega)]
    simp
theorem compS_filter {f : D → D} {p : D → Bool} {st : Store} : ∀ (ds acc : List D), (∀ d ∈ ds, ∃ τ1, g d (wipeE τ vs) = some τ1 ∧ t τ1 st = .ok (p d) st ∧ (p d = true → m τ1 st = .ok (f d) st)) → acc.length + ds.length ≤ sizeLine → compS g t m vs ds τ st acc = .ok (acc ++ (ds.filter p).map f) st
  | [], acc, _, _ => by simp [compS]
  | d :: ds, acc, h, hl => by
    obtain ⟨τ1, e1, e2, e3⟩ := h d List.mem_cons_self
    have hl' : acc.length < sizeLine := by simp only [List.length_cons] at hl; omega
    have hr := fun a => compS_filter (f := f) (p := p) ds a (fun d hd => h d (List.mem_cons_of_mem _ hd))
    rw [compS, e1]
    dsimp only
    rw [e2]
    cases q : p d with
    | true =>
      dsimp only
      rw [e3 q]
      dsimp only
      rw [if_pos hl', hr _ (by simp only [List.length_append, List.length_cons, List.length_nil] at hl ⊢; omega)]
      simp [q]
    | false =>
      dsimp only
      rw [hr _ (by simp only [List.length_cons] at hl; omega)]
      simp [q]
theorem sWhile_ind {P : Nat → En → Store → Prop} {R : En → Store → Prop} (step : ∀ n τ st, P (n + 1) τ st → ∃ st1 τ2 st2, t τ st = .ok true st1 ∧ (b τ st1 = .nx τ2 st2 ∨ b τ st1 = .ct τ2 st2) ∧ P n τ2 st2)
    (stop : ∀ τ st, P 0 τ st → ∃ st1, t τ st = .ok false st1 ∧ R τ st1) : ∀ n τ st, P n τ st → ∃ τ' st', sWhile t b τ st = .nx τ' st' ∧ R τ' st'
  | 0, τ, st, h => by
    obtain ⟨st1, e, r⟩ := stop τ st h
    exact ⟨τ, st1, by rw [sWhile_eq, e]; rfl, r⟩
  | n + 1, τ, st, h => by
    obtain ⟨st1, τ2, st2, e1, e2, h2⟩ := step n τ st h
    obtain ⟨τ', st', e3, r⟩ := sWhile_ind step stop n τ2 st2 h2
    refine ⟨τ', st', ?_, r⟩
    rw [sWhile_eq, e1]
    rcases e2 with e2 | e2 <;> · simp only [Rs.go_ok, if_true]; rw [e2]; exact e3
end
/-! ### equality -/
def Fl (k : Nat) (d : D) : Prop := dOk d = true ∧ (toPy d).depth ≤ k
theorem dOks_all : ∀ {ds : List D}, dOks ds = true ↔ ∀ d ∈ ds, dOk d = true
  | [] => by simp [dOks]
  | d :: ds => by simp [dOks, dOks_all]
theorem depths_le {k : Nat} : ∀ {ds : List D}, (∀ d ∈ ds, (toPy d).depth ≤ k) → PyData.depthAll (toPys ds) ≤ k
  | [], _ => by simp [toPys, PyData.depthAll]
  | d :: ds, h => by
    simp only [toPys, PyData.depthAll]
    exact Nat.max_le.mpr ⟨h d List.mem_cons_self, depths_le fun d hd => h d (List.mem_cons_of_mem _ hd)⟩
theorem Fl.int {k : Nat} {i : Int} : Fl k (.int i) := ⟨by simp [dOk], by simp [toPy, PyData.depth]⟩
theorem Fl.non {k : Nat} : Fl k .non := ⟨by simp [dOk], by simp [toPy, PyData.depth]⟩
theorem Fl.bl {k : Nat} {i : Bool} : Fl k (.bl i) := ⟨by simp [dOk], by simp [toPy, PyData.depth]⟩
theorem Fl.str {k : Nat} {i : Str} (h : PyData.strOk i = true) : Fl k (.str i) := ⟨by simp [dOk, h], by simp [toPy, PyData.depth]⟩
theorem Fl.tup {k : Nat} {xs : List D} (h : ∀ x ∈ xs, Fl k x) : Fl (k + 1) (.tup xs) := ⟨by simp only [dOk]; exact dOks_all.mpr fun x hx => (h x hx).1, by simp only [toPy, PyData.depth]; exact Nat.succ_le_succ (depths_le fun x hx => (h x hx).2)⟩
theorem Fl.lst {k : Nat} {xs : List D} (h : ∀ x ∈ xs, Fl k x) : Fl (k + 1) (.lst xs) := ⟨by simp only [dOk]; exact dOks_all.mpr fun x hx => (h x hx).1, by simp only [toPy, PyData.depth]; exact Nat.succ_le_succ (depths_le fun x hx => (h x hx).2)⟩
theorem Fl.sh {k : Nat} {d : D} (h : Fl k d) (hk : k ≤ 64 := by decide) : shD d = true := by
  unfold shD
  rw [h.1, decide_eq_true (Nat.le_trans h.2 hk)]; rfl
theorem eqD_refl {d : D} (h : dOk d = true) : eqD d d = true := PySem.SeqAt.eqv_refl _ (canLay_of d h)
theorem fEq_self {d : D} {st : Store} {k : Nat} (h : Fl k d) (hk : k ≤ 64 := by decide) : fEq d d st = .ok (.bl true) st := by
  unfold fEq
  rw [if_pos ⟨h.sh hk, h.sh hk⟩, eqD_refl h.1]
theorem fNe_self {d : D} {st : Store} {k : Nat} (h : Fl k d) (hk : k ≤ 64 := by decide) : fNe d d st = .ok (.bl false) st := by
  unfold fNe
  rw [if_pos ⟨h.sh hk, h.sh hk⟩, eqD_refl h.1]; rfl
@[simp] theorem fEq_int {i j : Int} {st : Store} : fEq (.int i) (.int j) st = .ok (.bl (decide (i = j))) st := by
  unfold fEq
  rw [if_pos ⟨(Fl.int (k := 0)).sh, (Fl.int (k := 0)).sh⟩]
  have : eqD (.int i) (.int j) = decide (i = j) := by
    unfold eqD
    simp only [toPy, PyData.eqv]
    by_cases h : i = j
    · subst h; simp
    · simp [h]
  rw [this]
@[simp] theorem fNe_int {i j : Int} {st : Store} : fNe (.int i) (.int j) st = .ok (.bl (!decide (i = j))) st := by
  unfold fNe
  rw [if_pos ⟨(Fl.int (k := 0)).sh, (Fl.int (k := 0)).sh⟩]
  have : eqD (.int i) (.int j) = decide (i = j) := by
    unfold eqD
    simp only [toPy, PyData.eqv]
    by_cases h : i = j
    · subst h; simp
    · simp [h]
  rw [this]
/-! ### items, ranges, slices -/
theorem atI_nat' {α : Type} {xs : List α} {k : Nat} {x : α} (h : xs[k]? = some x) : atI xs (k : Int) = some x := atI_nat h
@[simp] theorem rangeD_len (lo hi : Int) : (rangeD lo hi).length = (hi - lo).toNat := by simp [rangeD]
theorem rangeD_nat (n : Nat) : rangeD 0 (n : Int) = (List.range n).map fun i : Nat => D.int (i : Int) := by simp [rangeD]
theorem rangeD_mem {lo hi : Int} {d : D} : d ∈ rangeD lo hi ↔ ∃ i : Int, lo ≤ i ∧ i < hi ∧ d = .int i := by
  unfold rangeD
  rw [List.mem_map]
  constructor
  · rintro ⟨k, hk, rfl⟩
    rw [List.mem_range] at hk
    exact ⟨_, by omega, by omega, rfl⟩
  · rintro ⟨i, h1, h2, rfl⟩
    exact ⟨(i - lo).toNat, by rw [List.mem_range]; omega, by congr 1; omega⟩
end Fx

set_option Elab.async false
set_option linter.all false
set_option maxRecDepth 100000
set_option maxHeartbeats 4000000
namespace Fx
open PySem L2
/-! ### permutations, as functions with their opposite -/
structure Pm (d : Nat) where
  f : Nat → Nat
  b : Nat → Nat
  fb : ∀ x, f (b x) = x
  bf : ∀ x, b (f x) = x
  out : ∀ x, d ≤ x → f x = x
namespace Pm
variable {d : Nat}
theorem ext {p q : Pm d} (h : ∀ x, p.f x = q.f x) : p = q := by
  obtain ⟨f, b, fb, bf, o⟩ := p
  obtain ⟨f', b', fb', bf', o'⟩ := q
  have e : f = f' := funext h
  subst e
  have e2 : b = b' := funext fun x => by rw [← fb' x, bf, fb']
  subst e2
  rfl
theorem inj (p : Pm d) {x y : Nat} (h : p.f x = p.f y) : x = y := by rw [← p.bf x, h, p.bf]
theorem lt (p : Pm d) {x : Nat} (h : x < d) : p.f x < d := by
  refine Nat.lt_of_not_le fun hx => ?_
  have := p.inj (p.out _ hx)
  omega
theorem bout (p : Pm d) {x : Nat} (h : d ≤ x) : p.b x = x := by
  have := p.bf x
  rw [p.out x h] at this; exact this
theorem blt (p : Pm d) {x : Nat} (h : x < d) : p.b x < d := by
  refine Nat.lt_of_not_le fun hx => ?_
  have := p.out _ hx
  rw [p.fb] at this
  omega
instance : Mul (Pm d) := ⟨fun p q => ⟨fun x => q.f (p.f x), fun x => p.b (q.b x), fun x => by rw [p.fb, q.fb], fun x => by rw [q.bf, p.bf], fun x h => by rw [p.out x h, q.out x h]⟩⟩
def inv (p : Pm d) : Pm d := ⟨p.b, p.f, p.bf, p.fb, fun x h => p.bout h⟩
def one : Pm d := ⟨id, id, fun _ => rfl, fun _ => rfl, fun _ _ => rfl⟩
@[simp] theorem mul_f (p q : Pm d) (x : Nat) : (p * q).f x = q.f (p.f x) := rfl
@[simp] theorem inv_f (p : Pm d) : p.inv.f = p.b := rfl
@[simp] theorem inv_b (p : Pm d) : p.inv.b = p.f := rfl
@[simp] theorem one_f (x : Nat) : (one : Pm d).f x = x := rfl
theorem assoc (p q r : Pm d) : p * q * r = p * (q * r) := ext fun _ => rfl
theorem one_mul (p : Pm d) : one * p = p := ext fun _ => rfl
theorem mul_one (p : Pm d) : p * one = p := ext fun _ => rfl
theorem inv_mul (p : Pm d) : p.inv * p = one := ext fun x => p.fb x
theorem mul_inv (p : Pm d) : p * p.inv = one := ext fun x => p.bf x
theorem inv_mul_l (p q : Pm d) : p.inv * (p * q) = q := by rw [← assoc, inv_mul, one_mul]
theorem mul_inv_l (p q : Pm d) : p * (p.inv * q) = q := by rw [← assoc, mul_inv, one_mul]
theorem inv_inv (p : Pm d) : p.inv.inv = p := rfl
theorem inv_of_mul (p q : Pm d) : (p * q).inv = q.inv * p.inv := rfl
/-- by its list -/
def list (p : Pm d) : List Nat := (List.range d).map p.f
theorem len (p : Pm d) : p.list.length = d := by simp [list]
theorem list_get (p : Pm d) {x : Nat} (h : x < d) : p.list[x]? = some (p.f x) := by simp [list, h]
theorem list_inj {p q : Pm d} (h : p.list = q.list) : p = q := ext fun x => by
  by_cases hx : x < d
  · have := p.list_get hx
    rw [h, q.list_get hx] at this
    exact (Option.some.inj this).symm
  · rw [p.out x (by omega), q.out x (by omega)]
theorem mem_perm {l : List Nat} {x : Nat} (h : l.Perm (List.range d)) : x ∈ l ↔ x < d := by rw [h.mem_iff, List.mem_range]
def ofList (l : List Nat) (h : l.Perm (List.range d)) : Pm d where
  f := fun x => l.getD x x
  b := fun x => if x ∈ l then l.idxOf x else x
  fb := fun x => by
    have hl : l.length = d := by rw [h.length_eq, List.length_range]
    by_cases hx : x ∈ l
    · rw [if_pos hx, List.getD_eq_getElem?_getD, List.getElem?_eq_getElem (List.idxOf_lt_length_of_mem hx)]
      simp
    · rw [if_neg hx, List.getD_eq_getElem?_getD, List.getElem?_eq_none (by rw [hl]; exact Nat.le_of_not_lt fun z => hx ((mem_perm h).mpr z))]
      rfl
  bf := fun x => by
    have hl : l.length = d := by rw [h.length_eq, List.length_range]
    have nd : l.Nodup := h.nodup_iff.mpr List.nodup_range
    by_cases hx : x < l.length
    · rw [List.getD_eq_getElem?_getD, List.getElem?_eq_getElem hx, Option.getD_some, if_pos (List.getElem_mem hx)]
      exact List.Nodup.idxOf_getElem nd x hx
    · rw [List.getD_eq_getElem?_getD, List.getElem?_eq_none (by omega), Option.getD_none, if_neg]
      intro z
      have := (mem_perm h).mp z
      omega
  out := fun x hx => by
    have hl : l.length = d := by rw [h.length_eq, List.length_range]
    rw [List.getD_eq_getElem?_getD, List.getElem?_eq_none (by omega)]
    rfl
theorem ofList_list {l : List Nat} (h : l.Perm (List.range d)) : (ofList l h).list = l := by
  have hl : l.length = d := by rw [h.length_eq, List.length_range]
  apply List.ext_getElem
  · rw [len, hl]
  · intro n h1 h2
    simp [list, ofList, List.getElem?_eq_getElem h2]
end Pm
abbrev nD (n : Nat) : D := .int (n : Int)
def lD (l : List Nat) : D := .tup (l.map nD)
def tp {d : Nat} (p : Pm d) : D := lD p.list
def rD {d : Nat} (row : List (Pm d)) : D := .tup (row.map tp)
theorem lD_one {d : Nat} : tp (Pm.one : Pm d) = .tup (rangeD 0 (d : Int)) := by
  rw [rangeD_nat]; simp [tp, lD, Pm.list, Pm.one]
theorem fl_lD {l : List Nat} : Fl 1 (lD l) := Fl.tup fun x hx => by
  obtain ⟨n, _, rfl⟩ := List.mem_map.mp hx; exact .int
theorem fl_tp {d : Nat} (p : Pm d) : Fl 1 (tp p) := fl_lD
theorem fl_rD {d : Nat} (r : List (Pm d)) : Fl 2 (rD r) := Fl.tup fun x hx => by
  obtain ⟨n, _, rfl⟩ := List.mem_map.mp hx; exact fl_tp n
@[simp] theorem lf_lD {l : List Nat} : lf (lD l) = true := by simp [lD, List.all_map]
@[simp] theorem lf_tp {d : Nat} (p : Pm d) : lf (tp p) = true := lf_lD
@[simp] theorem lf_rD {d : Nat} (r : List (Pm d)) : lf (rD r) = true := by simp [rD, List.all_map]
theorem atI_map {α β : Type} {f : α → β} {l : List α} {k : Nat} {x : α} (h : l[k]? = some x) : atI (l.map f) (k : Int) = some (f x) := atI_nat (by rw [List.getElem?_map, h]; rfl)
@[simp] theorem cut_lo {xs : List D} {a : Nat} (h : a ≤ xs.length) : cutD xs (some (a : Int)) none = xs.drop a := by
  unfold cutD
  rw [HT.sIx_nat, HT.sIx_none, Nat.min_eq_left h, List.take_of_length_le (by rw [List.length_drop]; omega)]
@[simp] theorem cut_hi {xs : List D} {a : Nat} (h : a ≤ xs.length) : cutD xs none (some (a : Int)) = xs.take a := by
  unfold cutD
  rw [HT.sIx_nat, HT.sIx_none, Nat.min_eq_left h, List.drop_zero, Nat.sub_zero]
theorem cut_both {xs : List D} {a b : Nat} (h : a ≤ b) (h2 : b ≤ xs.length) : cutD xs (some (a : Int)) (some (b : Int)) = (xs.drop a).take (b - a) := by
  unfold cutD
  rw [HT.sIx_nat, HT.sIx_nat, Nat.min_eq_left h2, Nat.min_eq_left (by omega)]
theorem x_setLoc {st : Store} {n : Nat} {xs : List D} {k : Nat} {d : D} (h : st[n]? = some (.lst xs)) (hk : k < xs.length) : fSetL (.loc n) (.int (k : Int)) d st = some (st.set n (.lst (xs.set k d))) := by
  simp only [fSetL, h]
  have : ixN xs.length (k : Int) = some k := by unfold ixN; rw [if_pos (by omega), if_pos (by omega)]; simp
  rw [this]
theorem x_app {st : Store} {n : Nat} {xs : List D} {d : D} (h : st[n]? = some (.lst xs)) (hl : xs.length < sizeLine) : fApp (.loc n) [d] st = .ok .non (st.set n (.lst (xs ++ [d]))) := by
  simp only [fApp, onLoc, h]
  rw [if_pos (szFits_lt.mpr hl)]
theorem x_popAt {st : Store} {n : Nat} {xs : List D} {k : Nat} {d : D} (h : st[n]? = some (.lst xs)) (hk : xs[k]? = some d) (hs : k < 1000000) : fPopAt (.loc n) [.int (k : Int)] st = .ok d (st.set n (.lst (xs.eraseIdx k))) := by
  have hl : k < xs.length := (List.getElem?_eq_some_iff.mp hk).1
  have : ixN xs.length (k : Int) = some k := by unfold ixN; rw [if_pos (by omega), if_pos (by omega)]; simp
  simp only [fPopAt, onLoc, h]
  rw [if_pos (w63_of (by omega) (by omega)), this]
  simp only [hk, Option.map_some]
theorem small {n : Nat} (h : n ≤ 1000) : n ≤ sizeLine := Nat.le_of_lt (small1000 h)
/-! ### a dict of ints, each with True -/
def kvI (seen : List Int) : List (Key × D) := seen.map fun y => (.inl y, .bl true)
theorem valD_kvI {seen : List Int} {y : Int} : (valD (kvI seen) (.inl y)).isSome = decide (y ∈ seen) := by
  unfold valD kvI
  induction seen with
  | nil => simp
  | cons a r ih =>
    by_cases h : a = y
    · subst h; simp
    · have h' : ¬ y = a := fun z => h z.symm
      simp [h, h'] at ih ⊢
      exact ih
theorem any_kvI {seen : List Int} {y : Int} (h : y ∉ seen) : ((kvI seen).any fun kv => decide (kv.1 = Sum.inl y)) = false := by
  unfold kvI
  rw [List.any_map, List.any_eq_false]
  intro a ha
  simp only [Function.comp, decide_eq_true_eq, Sum.inl.injEq]
  intro z; subst z; exact h ha
theorem putD_kvI {seen : List Int} {y : Int} (h : y ∉ seen) : putD (kvI seen) (.inl y) (.bl true) = kvI (seen ++ [y]) := by
  unfold putD
  rw [if_neg (by rw [any_kvI h]; simp)]
  simp [kvI]
theorem fDIn_dk {st : Store} {n : Nat} {seen : List Int} {y : Int} (h : st[n]? = some (.dk (kvI seen))) : fDIn true (.int y) (.loc n) st = .ok (.bl (decide (y ∈ seen))) st := by
  have e := valD_kvI (seen := seen) (y := y)
  unfold fDIn dGet
  simp only [h, Fx.keyOf]
  cases q : valD (kvI seen) (Sum.inl y) with
  | none => rw [q] at e; simp at e; simp [e]
  | some v => rw [q] at e; simp at e; simp [e]
theorem fSetD_dk {st : Store} {n : Nat} {seen : List Int} {y : Int} (h : st[n]? = some (.dk (kvI seen))) (hy : y ∉ seen) (hl : seen.length < sizeLine) : fSetD (.loc n) (.int y) (.bl true) st = some (st.set n (.dk (kvI (seen ++ [y])))) := by
  unfold fSetD
  simp only [h, Fx.keyOf]
  rw [if_pos (szFits_lt.mpr (by simpa [kvI] using hl)), putD_kvI hy]
/-! ### which values are permutations -/
/-- no def, no type, no object of the store -/
def pl : D → Bool
  | .fn _ => false
  | .ty _ => false
  | .loc _ => false
  | _ => true
def isI : D → Bool
  | .int _ => true
  | _ => false
def permL (n : Nat) : List Int → List D → Bool
  | _, [] => true
  | seen, .int y :: r => if y < 0 ∨ (n : Int) ≤ y ∨ y ∈ seen then false else permL n (seen ++ [y]) r
  | _, _ :: _ => false
def isP : D → Bool
  | .tup xs => permL xs.length [] xs
  | _ => false
theorem permL_range {d : Nat} (p : Pm d) : ∀ (k j : Nat), j + k = d → permL d ((List.range j).map fun i => ((p.f i : Nat) : Int)) ((List.range' j k).map fun i => nD (p.f i)) = true
  | 0, j, _ => by simp [permL]
  | k + 1, j, h => by
    rw [List.range'_succ, List.map_cons, permL, if_neg]
    · have := permL_range p k (j + 1) (by omega)
      rw [List.range_succ, List.map_append, List.map_cons, List.map_nil] at this
      exact this
    · have hj : p.f j < d := p.lt (by omega)
      intro z
      rcases z with z | z | z
      · omega
      · omega
      · obtain ⟨i, hi, e⟩ := List.mem_map.mp z
        rw [List.mem_range] at hi
        have : p.f i = p.f j := by omega
        have := p.inj this
        omega
theorem isP_tp {d : Nat} (p : Pm d) : isP (tp p) = true := by
  have h := permL_range p d 0 (by omega)
  simp only [isP, tp, lD]
  rw [List.length_map, p.len]
  have e : (List.range' 0 d) = List.range d := List.range_eq_range'.symm
  rw [e] at h
  simp only [Pm.list, List.map_map]; exact h
end Fx

set_option Elab.async false
set_option linter.all false
set_option maxRecDepth 100000
set_option maxHeartbeats 4000000
namespace HT
open PySem PySem.Spec PyProof.Rows
section
variable {prog : Program} {w : World} {A : Around} {E : Value → Shared → Prop} {s : Shared}
theorem fx_adjust_rev (n : Nat) : Builtin.Slice.sliceAdjust none none (-1) (n : Int) = ((n : Int) - 1, -1) := by
  unfold Builtin.Slice.sliceAdjust
  have h1 : ((-1 : Int) < 0) := by omega
  simp only [h1, if_true]
theorem fx_places_rev (n : Nat) : Builtin.Slice.slicePlaces ((n : Int) - 1) (-1) (-1) = n := by
  unfold Builtin.Slice.slicePlaces
  have h1 : ¬ ((-1 : Int) > 0) := by omega
  simp only [h1, if_false]
  rw [show (-(-1 : Int)) = 1 by omega, Int.ediv_one]
  split <;> omega
theorem fx_applied_rev {sl : Addr} {vl vu vs : Value} {n : Nat} {Q : Int × Int × Nat → Shared → Prop} (hs : s.heap.IsSliceOf sl vl vu vs) (pl : IsPart vl none) (pu : IsPart vu none) (ps : IsPart vs (some (-1)))
    (h : Q ((n : Int) - 1, -1, n) s) : wpAny (model prog w) A (Builtin.Slice.sliceApplied (.ref sl) (pure (n : Int))) Q E s := by
  obtain ⟨os, hos, hcs, hds⟩ := id hs
  unfold Builtin.Slice.sliceApplied Builtin.Slice.sliceFields
  refine wpAny_bind (wpAny_bind (wpAny_field hos hds (x := vl) rfl (wpAny_bind (wpAny_field hos hds (x := vu) rfl (wpAny_bind (wpAny_field hos hds (x := vs) rfl (wpAny_pure ?_)))))))
  refine wpAny_bind (slicePart_ ps ?_)
  show wpAny _ _ (if ((-1 : Int) == 0) = true then _ else _) _ _ s
  rw [if_neg (by decide)]
  refine wpAny_bind (slicePart_ pl (wpAny_bind (slicePart_ pu (wpAny_bind (wpAny_pure ?_)))))
  show wpAny _ _ (match Builtin.Slice.sliceAdjust none none (-1) (n : Int) with | (lo, hi) => pure (lo, (-1 : Int), Builtin.Slice.slicePlaces lo hi (-1))) _ _ s
  rw [fx_adjust_rev n]
  show wpAny _ _ (pure ((n : Int) - 1, (-1 : Int), Builtin.Slice.slicePlaces ((n : Int) - 1) (-1) (-1))) _ _ s
  rw [fx_places_rev]
  exact wpAny_pure h
theorem fx_fm {α β : Type} {f g : α → Option β} : ∀ {l : List α}, (∀ a ∈ l, f a = g a) → l.filterMap f = l.filterMap g
  | [], _ => rfl
  | a :: l, h => by rw [List.filterMap_cons, List.filterMap_cons, h a List.mem_cons_self, fx_fm fun b hb => h b (List.mem_cons_of_mem _ hb)]
theorem fx_pick_rev (xs : Array Value) : ((List.range xs.size).filterMap fun (m : Nat) => xs[(((xs.size : Int) - 1) + (m : Int) * (-1)).toNat]?).toArray = xs.toList.reverse.toArray := by
  congr 1
  have e : ∀ (l : List Value), ((List.range l.length).filterMap fun (m : Nat) => l[(((l.length : Int) - 1) + (m : Int) * (-1)).toNat]?) = l.reverse := by
    intro l
    have e1 : ((List.range l.length).filterMap fun (m : Nat) => l[(((l.length : Int) - 1) + (m : Int) * (-1)).toNat]?) = (List.range l.length).filterMap fun (m : Nat) => l.reverse[m]? := by
      apply fx_fm
      intro m hm
      rw [List.mem_range] at hm
      rw [List.getElem?_reverse hm]
      congr 1
      omega
    rw [e1]
    have e2 : ∀ r : List Value, ((List.range r.length).filterMap fun (m : Nat) => r[m]?) = r := by
      intro r
      induction r with
      | nil => rfl
      | cons a r ih =>
        rw [List.length_cons, List.range_succ_eq_map, List.filterMap_cons]
        simp only [List.getElem?_cons_zero, List.filterMap_map]
        congr 1
    have := e2 l.reverse
    rw [List.length_reverse] at this
    exact this
  have := e xs.toList
  rw [Array.length_toList] at this
  rw [← this]
  apply fx_fm
  intro m _
  rw [Array.getElem?_toList]
theorem fx_getItem_tuple_rev {t sl : Addr} {items : Array Value} {vl vu vs : Value} {Q : Value → Shared → Prop} (ht : IsTup s.heap t items) (hs : s.heap.IsSliceOf sl vl vu vs) (pl : IsPart vl none) (pu : IsPart vu none) (ps : IsPart vs (some (-1)))
    (h : Q (.ref s.heap.objs.size) { s with heap := s.heap.push { cls := .type "tuple", data := .seq items.toList.reverse.toArray } })
    (hsz : items.size ≤ sizeLine) : wpAny (model prog w) A (getItem (.ref t) (.ref sl)) Q E s := by
  have htake : sizeOk (.seq items.toList.reverse.toArray) := by
    show items.toList.reverse.toArray.size ≤ sizeLine
    rw [List.size_toArray, List.length_reverse, Array.length_toList]
    exact hsz
  obtain ⟨os, hos, hcs, hds⟩ := id hs
  have hTs : s.TypeIs (.ref sl) "slice" := ⟨os, hos, hcs⟩
  unfold getItem
  try with_reducible refine wpAny_holding ?_
  first | refine wpAny_bind (wpAny_pure ?_) | skip
  refine wpAny_bind (wpAny_sequenceKey ht.typeIs (by decide) ?_)
  refine wpAny_bind (wpAny_callSpecial?_slot (name := Str.ofString "__getitem__") ht.typeIs PyProof.Rows.slot_tuple_getitem
    (wpAny_call_entry PyProof.Rows.slot_tuple_getitem ht.typeIs entry_tuple_getitem ?_ (args_tuple_getitem _ _)))
  show wpAny _ _ (Builtin.Tuple.tupleItemsOf (.ref t) >>= _) _ _ s
  refine wpAny_bind (tupleItemsOf_ ht ?_)
  refine wpAny_bind (wpAny_typeOf hTs ?_)
  rw [if_pos (by decide)]
  refine wpAny_bind (fx_applied_rev hs pl pu ps ?_)
  have hno : ¬ ((((items.size : Int) - 1) == 0 && (-1 : Int) == 1 && items.size == items.size) = true) := by
    intro q
    rw [Bool.and_eq_true, Bool.and_eq_true] at q
    exact absurd q.1.2 (by decide)
  show wpAny _ _ (if (((items.size : Int) - 1) == 0 && (-1 : Int) == 1 && items.size == items.size) = true then _ else _) _ _ s
  rw [if_neg hno, fx_pick_rev]
  first
    | exact wpAny_bind (m := Builtin.Tuple.tupleExact _) (wpAny_newObj_type (wpAny_pure ⟨_, rfl, wpAny_pure h⟩) htake)
    | exact wpAny_bind (m := Builtin.Tuple.tupleExact _) (wpAny_newObj_type (wpAny_bind (wpAny_pure (wpAny_pure ⟨_, rfl, wpAny_pure h⟩))) htake)
    | exact wpAny_bind (wpAny_bind (m := Builtin.Tuple.tupleExact _) (wpAny_newObj_type (wpAny_pure (wpAny_pure ⟨_, rfl, wpAny_pure h⟩)) htake))
    | exact wpAny_bind (wpAny_bind (m := Builtin.Tuple.tupleExact _) (wpAny_newObj_type (wpAny_pure ⟨_, rfl, wpAny_pure h⟩) htake))
end
end HT
namespace L2
open PySem PySem.Spec PyProof.Rows
/-- t[::-1] of a tuple -/
def tFxRevT (K : PySem.W.Frag) (te : TE) : TE := fun σ H Q => te σ H fun x H1 => ∃ a xs, x = .ref a ∧ SqT K H1 a xs ∧ ∀ p, H1 p = none → Q (.ref p) (upd H1 p (.tup xs.reverse))
theorem pe_fxRevT {X : Cx} {e : Expr} {te : TE} {k : Nat} {p1 p2 p3 pos : Pos} (he : PE X e te) : PE X (.Subscript e (.Slice none none (some (.UnaryOp .USub (.Constant (.int 1) k p1) p2)) p3) pos) (tFxRevT X.K te) := by
  refine ⟨fun pins s σ H Q I h => ?_⟩
  refine Subscript_ (thn (he.run pins s σ H _ I h) fun v s1 ⟨x, H1, I1, r1, q1⟩ => ?_)
  obtain ⟨a, xs, ex, hx, q⟩ := q1
  subst ex
  cases r1
  have hst : PO X (some (.UnaryOp .USub (.Constant (.int 1) k p1) p2)) (tPart (tUn (rU fun i => .int (-i)) (tC (.int 1)))) := po_some (pe_un un_neg pe_int)
  refine wpAny_Slice (thn (po_none.run pins s1 σ H1 (fun o H2 => o = none ∧ H2 = H1) I1 ⟨rfl, rfl⟩) fun vl s2 ⟨l, H2, I2, pl, el, e2⟩ => ?_)
  subst el e2
  refine thn (po_none.run pins s2 σ H2 (fun o H3 => o = none ∧ H3 = H2) I2 ⟨rfl, rfl⟩) fun vu s3 ⟨u, H3, I3, pu, eu, e3⟩ => ?_
  subst eu e3
  refine thn (hst.run pins s3 σ H3 (fun o H4 => o = some (-1) ∧ H4 = H3) I3 ⟨1, rfl, -1, rfl, rfl, rfl⟩) fun vs s4 ⟨o, H4, I4, ps, eo, e4⟩ => ?_
  subst eo e4
  have I5 : Inv X pins σ H4 { s4 with heap := s4.heap.push { cls := .type "slice", data := .fields #[vl, vu, vs] } } := I4.kept (t' := s4.toks) fun b ob q => Heap.get?_push_of_some _ q
  obtain ⟨its, r, ht, hz⟩ := I5.tuple hx
  have hlen := r.length
  show wpAny (model X.prog X.w) X.A (subscriptTail e (.Slice none none (some (.UnaryOp .USub (.Constant (.int 1) k p1) p2)) p3) (.ref a) (.ref s4.heap.objs.size)) (EP X pins σ Q) X.xe { s4 with heap := s4.heap.push { cls := .type "slice", data := .fields #[vl, vu, vs] } }
  refine tail_any (ops := [.ref a, .ref s4.heap.objs.size]) ht.typeIs (PyProof.Rows.slot_tuple_getitem.lookup) ?_ (by with_unfolding_all rfl)
  refine HT.fx_getItem_tuple_rev ht (Heap.IsSliceOf.new _ vl vu vs) pl pu ps ?_ (by rw [List.size_toArray]; omega)
  refine ⟨.ref _, _, I5.laid (t' := s4.toks) (o := .tup xs.reverse) (fun b ob q => Heap.get?_push_of_some _ q) (Nat.le_refl _) ?_, rfl, q _ (I5.hok.fresh (Nat.le_refl _))⟩
  exact ⟨by rw [List.length_reverse]; exact hz, _, r.reverse, IsTup.new _ _⟩
end L2
namespace Fx
open PySem L2 PyProof.Rows
section
variable {X : Cx} {W : WX} {a b : Expr} {ma mb : SE} {pos : Pos}
def mRevT (m : SE) : SE := fun τ st => (m τ st).bind fun d st1 => match d with
  | .tup xs => .ok (.tup xs.reverse) st1
  | _ => .no
theorem ev_revT {k : Nat} {p1 p2 p3 : Pos} (ha : EvE X W a ma) : EvE X W (.Subscript a (.Slice none none (some (.UnaryOp .USub (.Constant (.int 1) k p1) p2)) p3) pos) (mRevT ma) :=
  PE.imp (pe_fxRevT ha) fun σ H Q ⟨ρ, τ, st, r0, en, o⟩ => tM.bind r0 en o fun d st1 ρ1 H1 v e1 r1 en1 q o1 => by
    cases d with
    | tup xs =>
      simp only [RelD] at q
      obtain ⟨p, us, rfl, hs, ru⟩ := q
      refine ⟨p, us, rfl, SqT.of hs, fun y hy => o1.free r1 hy ?_⟩
      simp only [reD, RelD]
      exact ⟨y, _, rfl, upd_same, (RelDs.mono (r1.push_ext hy) r1 _ ru).reverse⟩
    | _ => exact o1.elim
@[simp] theorem x_mRevT {m : SE} {σ : En} {st : Store} : mRevT m σ st = (m σ st).bind fun d st1 => match d with
  | .tup xs => .ok (.tup xs.reverse) st1
  | _ => .no := rfl
end
end Fx

set_option Elab.async false
set_option linter.all false
set_option maxRecDepth 100000
set_option maxHeartbeats 4000000
namespace Fx
open PySem L2 PyProof.Rows
section
variable {X : Cx} {W : WX} {a b : Expr} {ma mb : SE} {na nb : SA} {p pos : Pos}
/-! ### a slice of a list, as a list that this expression makes -/
def slL (d : D) (lo hi : Option Int) (st : Store) : Rs (List D) := match listOf d st with
  | some xs => .ok (cutD xs lo hi) st
  | none => .no
def mSlL (m : SE) (ml mh : SO) : SA := fun τ st => (m τ st).bind fun d st1 => (ml τ st1).bind fun lo st2 => (mh τ st2).bind fun hi st3 => slL d lo hi st3
theorem ef_sl {lo hi : Option Expr} {ml mh : SO} (ha : EvE X W a ma) (hl : EvO X W lo ml) (hh : EvO X W hi mh) : EvF X W (.Subscript a (.Slice lo hi none p) pos) (mSlL ma ml mh) :=
  PE.imp (pe_slice sl_list ha hl hh) fun σ H Q ⟨ρ, τ, st, r0, en, o⟩ => tM.bind r0 en o fun d st1 ρ1 H1 v e1 r1 en1 q o1 => tM.bind r1 en1 o1 fun l st2 ρ2 H2 l' e2 r2 en2 q2 o2 => tM.bind r2 en2 o2 fun h st3 ρ3 H3 h' e3 r3 en3 q3 o3 => by
    cases (show l = l' from q2)
    cases (show h = h' from q3)
    have q' := (q.mono e2 r1).mono e3 r2
    unfold slL at o3
    cases hx : Fx.listOf d st3 with
    | none => rw [hx] at o3; exact o3.elim
    | some xs =>
      rw [hx] at o3
      obtain ⟨p, us, rfl, hs, ru⟩ := listOf_rel r3 q' hx
      exact ⟨p, us, rfl, hs, fun y hy => o3.fresh r3 hy (ru.cut l h)⟩
/-! ### list + list -/
def strictL (d : D) (st : Store) : Option (List D) := match d with
  | .loc n => (match st[n]? with
    | some (.lst xs) => some xs
    | _ => none)
  | _ => none
theorem strictL_rel {K : PySem.W.Frag} {ρ : Mp} {st : Store} {H : Hp} {d : D} {v : V} {xs : List D} (r : R K ρ st H) (h : RelD K ρ st.length H d v) (e : strictL d st = some xs) : ∃ l us, v = .ref l ∧ H l = some (.lst us) ∧ RelDs K ρ st.length H xs us := by
  cases d with
  | loc n =>
    simp only [strictL] at e
    cases q : st[n]? with
    | none => rw [q] at e; cases e
    | some o =>
      rw [q] at e
      cases o with
      | lst ys =>
        cases e
        obtain ⟨_, hv, us, h1, h2⟩ := loc_rel r h q
        exact ⟨_, us, hv, h1, h2⟩
      | _ => cases e
  | _ => cases e
noncomputable def catR (xs : Option (List D)) (ds : Option (List D)) (st : Store) : Rs (List D) := match xs, ds with
  | some xs, some ds => if szFits (xs.length + ds.length) = true then .ok (xs ++ ds) st else .no
  | _, _ => .no
noncomputable def mCatLF (ma : SE) (nb : SA) : SA := fun τ st => (ma τ st).bind fun d st1 => (nb τ st1).bind fun ds st2 => catR (strictL d st2) (some ds) st2
noncomputable def mCatLL (ma mb : SE) : SA := fun τ st => (ma τ st).bind fun d st1 => (mb τ st1).bind fun d2 st2 => catR (strictL d st2) (strictL d2 st2) st2
noncomputable def mCatFF (na nb : SA) : SA := fun τ st => (na τ st).bind fun ds st1 => match nb τ st1 with
  | .ok ds2 st2 => catR (some ds) (some ds2) st2
  | _ => .no
noncomputable def mCatFL (na : SA) (mb : SE) : SA := fun τ st => (na τ st).bind fun ds st1 => match mb τ st1 with
  | .ok d2 st2 => catR (some ds) (strictL d2 st2) st2
  | _ => .no
theorem ef_catLF (ha : EvE X W a ma) (hb : EvF X W b nb) : EvF X W (.BinOp a .Add b pos) (mCatLF ma nb) :=
  PE.imp (pe_op op_cat ha hb) fun σ H Q ⟨ρ, τ, st, r0, en, o⟩ => tM.bind r0 en o fun d st1 ρ1 H1 vx e1 r1 en1 q o1 => tM.bind r1 en1 o1 fun ds st2 ρ2 H2 vy e2 r2 en2 q2 o2 => by
    obtain ⟨b', vs, rfl, h0, hb', rh, rv⟩ := q2
    cases hs : strictL d st2 with
    | none => simp only [hs, catR] at o2; exact o2.elim
    | some xs =>
      simp only [hs, catR] at o2
      split at o2
      · rename_i hz
        obtain ⟨l, us, e, hl, ru⟩ := strictL_rel r2 (q.mono e2 r1) hs
        exact ⟨l, b', us, vs, e, rfl, hl, hb', by rw [ru.len, rv.len]; exact szFits_iff.mp hz, fun p hp => o2.fresh r2 hp (ru.append (RelDs.show' _ rv))⟩
      · exact o2.elim
theorem ef_catLL (ha : EvE X W a ma) (hb : EvE X W b mb) : EvF X W (.BinOp a .Add b pos) (mCatLL ma mb) :=
  PE.imp (pe_op op_cat ha hb) fun σ H Q ⟨ρ, τ, st, r0, en, o⟩ => tM.bind r0 en o fun d st1 ρ1 H1 vx e1 r1 en1 q o1 => tM.bind r1 en1 o1 fun d2 st2 ρ2 H2 vy e2 r2 en2 q2 o2 => by
    cases hs : strictL d st2 with
    | none => simp only [hs, catR] at o2; exact o2.elim
    | some xs =>
      cases hs2 : strictL d2 st2 with
      | none => simp only [hs, hs2, catR] at o2; exact o2.elim
      | some ys =>
        simp only [hs, hs2, catR] at o2
        split at o2
        · rename_i hz
          obtain ⟨l, us, e, hl, ru⟩ := strictL_rel r2 (q.mono e2 r1) hs
          obtain ⟨l2, ws, ee, hl2, rw2⟩ := strictL_rel r2 q2 hs2
          exact ⟨l, l2, us, ws, e, ee, hl, hl2, by rw [ru.len, rw2.len]; exact szFits_iff.mp hz, fun p hp => o2.fresh r2 hp (ru.append rw2)⟩
        · exact o2.elim
/-- a list is held back while more is evaluated -/
theorem held {K : PySem.W.Frag} {ρ ρ1 : Mp} {st st1 : Store} {H H1 : Hp} {τ : En} {σ : L2.St} {a' : Addr} (r0 : R K ρ st H) (en : EnvR K ρ st.length H τ σ) (e1 : Ext ρ st.length H ρ1 st1.length H1) (h0 : H a' = none) : EnvR K (ρ1.hide a') st1.length H1 τ σ :=
  ⟨en.1, fun i d q => let ⟨v, h1, h2⟩ := en.2 i d q; ⟨v, h1, RelD.monoW (e1.hideW h0) r0 d h2⟩⟩
theorem ef_catFF (ha : EvF X W a na) (hb : EvF X W0 b nb) : EvF X W (.BinOp a .Add b pos) (mCatFF na nb) :=
  PE.imp (pe_op op_cat ha hb) fun σ H Q ⟨ρ, τ, st, r0, en, o⟩ => tM.bind r0 en o fun ds st1 ρ1 H1 vx e1 r1 en1 q o1 => by
    obtain ⟨a', us, rfl, h0, ha', rh, ru⟩ := q
    refine ⟨ρ1.hide a', τ, st1, rh, held r0 en e1 h0, ?_⟩
    cases q2 : nb τ st1 with
    | no => rw [q2] at o1; exact o1.elim
    | er x s => rw [q2] at o1; exact o1.elim
    | ok ds2 st2 =>
      rw [q2] at o1
      simp only [catR] at o1
      split at o1
      · rename_i hz
        rintro ρ' H' vy e' r' ⟨b', vs, rfl, h0', hb', rh', rv'⟩
        have u := unhide (ρ := ρ1) (p := a') e'.hid
        have hp' : H' a' = some (.lst us) := e'.keep a' _ ha' fun i hi z => rh.sep i hi (.inr z)
        have ru' := RelDs.mono e' rh ds ru
        refine ⟨a', b', us, vs, rfl, rfl, hp', hb', by rw [ru.len, rv'.len]; exact szFits_iff.mp hz, fun p hp => ?_⟩
        have ex : Ext ρ1 st1.length H1 ⟨ρ'.at', ρ1.hid⟩ st2.length H' := ⟨e'.le, e'.old, e'.new, e'.keep, rfl⟩
        have r'' : R X.K ⟨ρ'.at', ρ1.hid⟩ st2 H' := by rw [u] at r'; exact r'.show'
        have ru'' : RelDs X.K ⟨ρ'.at', ρ1.hid⟩ st2.length H' ds us := by rw [u] at ru'; exact RelDs.show' _ ru'
        have rv'' : RelDs X.K ⟨ρ'.at', ρ1.hid⟩ st2.length H' ds2 vs := by
          have z := RelDs.show' _ rv'
          rw [u] at z; exact RelDs.show' _ z
        exact (Out.shift o1 r1 ex r'').fresh r'' hp (ru''.append rv'')
      · exact o1.elim
theorem ef_catFL (ha : EvF X W a na) (hb : EvE X W0 b mb) : EvF X W (.BinOp a .Add b pos) (mCatFL na mb) :=
  PE.imp (pe_op op_cat ha hb) fun σ H Q ⟨ρ, τ, st, r0, en, o⟩ => tM.bind r0 en o fun ds st1 ρ1 H1 vx e1 r1 en1 q o1 => by
    obtain ⟨a', us, rfl, h0, ha', rh, ru⟩ := q
    refine ⟨ρ1.hide a', τ, st1, rh, held r0 en e1 h0, ?_⟩
    cases q2 : mb τ st1 with
    | no => rw [q2] at o1; exact o1.elim
    | er x s => rw [q2] at o1; exact o1.elim
    | ok d2 st2 =>
      rw [q2] at o1
      cases hs2 : strictL d2 st2 with
      | none => simp only [hs2, catR] at o1; exact o1.elim
      | some ys =>
        simp only [hs2, catR] at o1
        split at o1
        · rename_i hz
          rintro ρ' H' vy e' r' rd
          have u := unhide (ρ := ρ1) (p := a') e'.hid
          have hp' : H' a' = some (.lst us) := e'.keep a' _ ha' fun i hi z => rh.sep i hi (.inr z)
          have ru' := RelDs.mono e' rh ds ru
          have ex : Ext ρ1 st1.length H1 ⟨ρ'.at', ρ1.hid⟩ st2.length H' := ⟨e'.le, e'.old, e'.new, e'.keep, rfl⟩
          have r'' : R X.K ⟨ρ'.at', ρ1.hid⟩ st2 H' := by rw [u] at r'; exact r'.show'
          have ru'' : RelDs X.K ⟨ρ'.at', ρ1.hid⟩ st2.length H' ds us := by rw [u] at ru'; exact RelDs.show' _ ru'
          have rd'' : RelD X.K ⟨ρ'.at', ρ1.hid⟩ st2.length H' d2 vy := by
            have z : RelD X.K ρ' st2.length H' d2 vy := rd
            rw [u] at z; exact RelD.show' _ z
          obtain ⟨l, ws, e, hl, rw2⟩ := strictL_rel r'' rd'' hs2
          refine ⟨a', l, us, ws, rfl, e, hp', hl, by rw [ru.len, rw2.len]; exact szFits_iff.mp hz, fun p hp => ?_⟩
          exact (Out.shift o1 r1 ex r'').fresh r'' hp (ru''.append rw2)
        · exact o1.elim
@[simp] theorem x_mSlL {m : SE} {ml mh : SO} {σ : En} {st : Store} : mSlL m ml mh σ st = (m σ st).bind fun d st1 => (ml σ st1).bind fun lo st2 => (mh σ st2).bind fun hi st3 => slL d lo hi st3 := rfl
@[simp] theorem x_slFL {xs : List D} {lo hi : Option Int} {st : Store} : slL (.lst xs) lo hi st = .ok (cutD xs lo hi) st := rfl
theorem x_slLoc {n : Nat} {xs : List D} {lo hi : Option Int} {st : Store} (h : st[n]? = some (.lst xs)) : slL (.loc n) lo hi st = .ok (cutD xs lo hi) st := by simp only [slL, Fx.listOf, h]
theorem x_strict {n : Nat} {xs : List D} {st : Store} (h : st[n]? = some (.lst xs)) : strictL (.loc n) st = some xs := by simp only [strictL, h]
@[simp] theorem x_catR {xs ds : List D} {st : Store} : catR (some xs) (some ds) st = if szFits (xs.length + ds.length) = true then .ok (xs ++ ds) st else .no := rfl
@[simp] theorem x_mCatLF {σ : En} {st : Store} : mCatLF ma nb σ st = (ma σ st).bind fun d st1 => (nb σ st1).bind fun ds st2 => catR (strictL d st2) (some ds) st2 := rfl
@[simp] theorem x_mCatLL {σ : En} {st : Store} : mCatLL ma mb σ st = (ma σ st).bind fun d st1 => (mb σ st1).bind fun d2 st2 => catR (strictL d st2) (strictL d2 st2) st2 := rfl
@[simp] theorem x_mCatFF {σ : En} {st : Store} : mCatFF na nb σ st = (na σ st).bind fun ds st1 => match nb σ st1 with
  | .ok ds2 st2 => catR (some ds) (some ds2) st2
  | _ => .no := rfl
@[simp] theorem x_mCatFL {σ : En} {st : Store} : mCatFL na mb σ st = (na σ st).bind fun ds st1 => match mb σ st1 with
  | .ok d2 st2 => catR (some ds) (strictL d2 st2) st2
  | _ => .no := rfl
end
end Fx

set_option Elab.async false
set_option linter.all false
set_option maxRecDepth 100000
set_option maxHeartbeats 4000000
namespace Fx
open PySem L2 PyProof.Rows
/-! ### augmented assignment to a name -/
def IOpS (X : Cx) (op : Operator) (f : D → D → Store → Rs D) : Prop :=
  ∃ t, PIp X op t ∧ ∀ (W : WX) (σ : L2.St) (ρ : Mp) (st : Store) (H : Hp) (x y : D) (vx vy : V) (Q : VK), R X.K ρ st H → RelD X.K ρ st.length H x vx → RelD X.K ρ st.length H y vy → Out X.K (reD X.K) W σ ρ st.length H Q (f x y st) → t vx vy H Q
def sAug (i : Nat) (f : D → D → Store → Rs D) (m : SE) : SS := fun τ st => match τ[i]? with
  | some (some x) => (m τ st).go τ fun y st1 => (f x y st1).go τ fun z st2 => .nx (τ.set i (some z)) st2
  | _ => .no
section
variable {X : Cx} {W : WX} {e : Expr} {m : SE} {pos : Pos}
theorem es_aug (i : Nat) {x : Str} {pos' : Pos} {op : Operator} {f : D → D → Store → Rs D} (hN : X.N.Nodup) (ho : IOpS X op f) (he : EvE X W e m) (hi : X.N[i]? = some x := by rfl) (hx : Loc X.env.scope x := by first | exact Or.inl rfl | exact Or.inr rfl)
    (hf : X.fn x = true ∨ X.env.scope.names.lookup x = some .local := by first | exact .inl rfl | exact .inr rfl | assumption) : EvS X W (.AugAssign (.Name x pos') op e pos) (sAug i f m) := by
  obtain ⟨t, h1, h2⟩ := ho
  refine PS.imp (ps_aug hN hi hx he h1 hf) fun D σ H ⟨ρ, τ, st, r0, en, o⟩ => ?_
  unfold sAug at o
  cases q : τ[i]? with
  | none => rw [q] at o; exact o.elim
  | some y =>
    rw [q] at o
    cases y with
    | none => exact o.elim
    | some d =>
      obtain ⟨v, hv, rv⟩ := en.2 i d q
      refine ⟨v, hv, tM.goS r0 en o fun y st1 ρ1 H1 vy e1 r1 en1 qy o1 => ?_⟩
      refine h2 W σ ρ1 st1 H1 d y v vy _ r1 (rv.mono e1 r0) qy (OutS.go (Ra := reD X.K) r1 en1 o1 fun z st2 ρ2 H2 vz e2 r2 en2 qz o2 => ?_)
      exact o2.next r2 (en2.set qz i)
theorem ios_add : IOpS X .Add (onII fun i j => .int (i + j)) := by
  refine ⟨_, ip_add, fun W σ ρ st H x y vx vy Q r rx ry o => ?_⟩
  cases x with
  | int i =>
    cases y with
    | int j => simp only [RelD] at rx ry; exact ⟨i, j, rx, ry, o.here r (by simp [reD, RelD])⟩
    | _ => exact o.elim
  | _ => exact o.elim
theorem ios_sub : IOpS X .Sub (onII fun i j => .int (i - j)) := by
  refine ⟨_, ip_sub, fun W σ ρ st H x y vx vy Q r rx ry o => ?_⟩
  cases x with
  | int i =>
    cases y with
    | int j => simp only [RelD] at rx ry; exact ⟨i, j, rx, ry, o.here r (by simp [reD, RelD])⟩
    | _ => exact o.elim
  | _ => exact o.elim
end
theorem x_sAug {i : Nat} {f : D → D → Store → Rs D} {m : SE} {τ : En} {st : Store} {x : D} (h : τ[i]? = some (some x)) : sAug i f m τ st = (m τ st).go τ fun y st1 => (f x y st1).go τ fun z st2 => .nx (τ.set i (some z)) st2 := by simp only [sAug, h]
end Fx

set_option Elab.async false
set_option linter.all false
set_option maxRecDepth 100000
set_option maxHeartbeats 4000000
namespace Fx
open PySem L2
variable {d : Nat}
abbrev stt (s t : Int) : O := .lst [.int s, .int t]
theorem ix0 {s t : Int} {r : Store} : fIx (.loc 0) (.int 0) (stt s t :: r) = .ok (.int s) (stt s t :: r) := by rw [x_ixLoc (xs := [.int s, .int t]) rfl]; rfl
theorem ix1 {s t : Int} {r : Store} : fIx (.loc 0) (.int 1) (stt s t :: r) = .ok (.int t) (stt s t :: r) := by rw [x_ixLoc (xs := [.int s, .int t]) rfl]; rfl
theorem set0 {s t v : Int} {r : Store} : fSetL (.loc 0) (.int 0) (.int v) (stt s t :: r) = some (stt v t :: r) := x_setLoc (st := stt s t :: r) (n := 0) (k := 0) rfl (by simp)
theorem set1 {s t v : Int} {r : Store} : fSetL (.loc 0) (.int 1) (.int v) (stt s t :: r) = some (stt s v :: r) := x_setLoc (st := stt s t :: r) (n := 0) (k := 1) rfl (by simp)
theorem mulFits_r {i j : Int} (h1 : -1000000000 < j) (h2 : j < 1000000000) : mulFits i j = true := mulFits_iff.mpr (.inr (.inl ⟨by omega, by omega⟩))
theorem divFits_of {i j : Int} (h1 : 0 < j) (h2 : j < 1000000000) : divFits i j = true := by
  refine divFits_iff.mpr ⟨h1, ?_⟩
  have : j.natAbs.log2 < 30 := (Nat.log2_lt (by omega)).mpr (by omega)
  omega
theorem comp_pq {p q : Pm d} {m : SE} {vs : List Nat} {τ : En} {st : Store} {g : SG} (hd : d ≤ 1000) (h : ∀ i, i < d → ∃ τ1, g (nD (p.f i)) (wipeE τ vs) = some τ1 ∧ m τ1 st = .ok (nD (q.f (p.f i))) st) : compS g mYes m vs (p.list.map nD) τ st [] = .ok ((p * q).list.map nD) st := by
  rw [compS_map (f := fun x => match x with | .int y => nD (q.f y.toNat) | _ => .non)]
  · simp [Pm.list, Function.comp_def]
  · intro x hx
    obtain ⟨n, hn, rfl⟩ := List.mem_map.mp hx
    obtain ⟨i, hi, rfl⟩ := List.mem_map.mp hn
    rw [List.mem_range] at hi
    obtain ⟨τ1, e1, e2⟩ := h i hi
    exact ⟨τ1, e1, rfl, by simpa using e2⟩
  · simpa [Pm.len] using small hd
theorem atI_tp (q : Pm d) {n : Nat} (h : n < d) : atI (q.list.map nD) (n : Int) = some (nD (q.f n)) := atI_map (q.list_get h)
def invF (p : Pm d) (j : Nat) : List D := (List.range d).map fun y => nD (if p.b y < j then p.b y else 0)
theorem invF_len (p : Pm d) (j : Nat) : (invF p j).length = d := by simp [invF]
theorem invF_zero (p : Pm d) : invF p 0 = List.replicate d (.int 0) := by
  refine List.ext_getElem (by simp [invF]) fun n h1 h2 => ?_
  simp [invF]
theorem invF_all (p : Pm d) : invF p d = p.inv.list.map nD := by
  refine List.ext_getElem (by simp [invF, Pm.len]) fun n h1 h2 => ?_
  have hn : n < d := by simpa [invF] using h1
  simp [invF, Pm.list, p.blt hn]
theorem invF_set (p : Pm d) {j : Nat} (hj : j < d) : (invF p j).set (p.f j) (nD j) = invF p (j + 1) := by
  refine List.ext_getElem (by simp [invF]) fun n h1 h2 => ?_
  have hn : n < d := by simpa [invF] using h2
  rw [List.getElem_set]
  by_cases e : p.f j = n
  · subst e
    simp [invF, p.bf]
  · rw [if_neg e]
    have hne : p.b n ≠ j := fun z => e (by rw [← z, p.fb])
    simp only [invF, List.getElem_map, List.getElem_range]
    by_cases c : p.b n < j
    · rw [if_pos c, if_pos (by omega)]
    · rw [if_neg c, if_neg (by omega)]
theorem inv_loop {g : SG} {b : SS} {F : Nat → D} {P : En → Prop} (p : Pm d) (st : Store) (step : ∀ i, i < d → ∀ τ, P τ → ∃ τ1, g (F i) τ = some τ1 ∧ ∃ τ2, P τ2 ∧ b τ1 (st ++ [.lst (invF p i)]) = .nx τ2 (st ++ [.lst ((invF p i).set (p.f i) (nD i))])) :
    ∀ (k j : Nat), j + k = d → ∀ τ, P τ → ∃ τ', P τ' ∧ forS g b ((List.range' j k).map F) τ (st ++ [.lst (invF p j)]) = .nx τ' (st ++ [.lst (invF p d)])
  | 0, j, h, τ, hP => ⟨τ, hP, by rw [show j = d by omega]; rfl⟩
  | k + 1, j, h, τ, hP => by
    obtain ⟨τ1, e1, τ2, hP2, e2⟩ := step j (by omega) τ hP
    obtain ⟨τ', hP', e3⟩ := inv_loop p st step k (j + 1) (by omega) τ2 hP2
    refine ⟨τ', hP', ?_⟩
    rw [List.range'_succ, List.map_cons, x_forS_cons, e1]
    dsimp only
    rw [e2, Rt.loop_nx, invF_set p (by omega)]
    exact e3
theorem set_last {st : Store} {xs : List D} {k : Nat} {v : D} (h : k < xs.length) : fSetL (.loc st.length) (.int (k : Int)) v (st ++ [.lst xs]) = some (st ++ [.lst (xs.set k v)]) := by
  rw [x_setLoc (xs := xs) (by simp) h]; simp
theorem enum_tp (p : Pm d) : enumD (p.list.map nD) = (List.range d).map fun i => D.tup [nD i, nD (p.f i)] := by
  refine List.ext_getElem? fun i => ?_
  rw [enumD_get]
  by_cases h : i < d
  · simp [p.list_get h, h]
  · rw [List.getElem?_eq_none (by simp [Pm.len]; omega), List.getElem?_eq_none (by simp; omega)]; rfl
theorem range_nD (n : Nat) : rangeD 0 (n : Int) = (List.range n).map nD := rangeD_nat n
theorem erase_perm {α : Type} : ∀ {l : List α} {k : Nat} {x : α}, l[k]? = some x → (x :: l.eraseIdx k).Perm l
  | [], k, x, h => by simp at h
  | a :: l, 0, x, h => by simp at h; subst h; simp
  | a :: l, k + 1, x, h => by
    simp only [List.getElem?_cons_succ] at h
    rw [List.eraseIdx_cons_succ]
    exact (List.Perm.swap a x _).trans ((erase_perm h).cons a)
theorem erase_map {α β : Type} {f : α → β} : ∀ {l : List α} {k : Nat}, (l.map f).eraseIdx k = (l.eraseIdx k).map f
  | [], k => by simp
  | a :: l, 0 => by simp
  | a :: l, k + 1 => by simp [erase_map]
def Pm.swap (a b : Nat) (ha : a < d) (hb : b < d) : Pm d where
  f := fun x => if x = a then b else if x = b then a else x
  b := fun x => if x = a then b else if x = b then a else x
  fb := fun x => by
    by_cases h1 : x = a
    · subst h1; by_cases h2 : b = x <;> simp [h2]
    · by_cases h2 : x = b
      · subst h2; simp [h1]
      · simp [h1, h2]
  bf := fun x => by
    by_cases h1 : x = a
    · subst h1; by_cases h2 : b = x <;> simp [h2]
    · by_cases h2 : x = b
      · subst h2; simp [h1]
      · simp [h1, h2]
  out := fun x h => by rw [if_neg (by omega), if_neg (by omega)]
@[simp] theorem x_onBlsC {α : Type} {f : List Bool → D} {g : α → Bool} {xs : List α} {st : Store} : onBls f [.lst (xs.map (D.bl ∘ g))] st = .ok (f (xs.map g)) st := by
  rw [← List.map_map]; exact x_onBls
@[simp] theorem x_onBlsF {α : Type} {f : List Bool → D} {g : α → Bool} {xs : List α} {st : Store} : onBls f [.lst (xs.map fun x => D.bl (g x))] st = .ok (f (xs.map g)) st := x_onBlsC
def lenD : D → Nat
  | .tup ys => ys.length
  | _ => 0
def okV (x : D) : Prop := pl x = true ∧ ∀ ys, x = .tup ys → (∀ y ∈ ys, pl y = true) ∧ ys.length ≤ 1000
theorem isP_tup {x : D} (h : isP x = true) : ∃ ys, x = .tup ys := by
  cases x <;> simp [isP] at h
  exact ⟨_, rfl⟩
theorem fLen_P {x : D} (h : isP x = true) {st : Store} : fLen [x] st = .ok (.int (lenD x : Int)) st := by
  obtain ⟨ys, rfl⟩ := isP_tup h; rfl
theorem okV_tp {p : Pm d} (hd : d ≤ 1000) : okV (tp p) := by
  refine ⟨rfl, fun ys e => ?_⟩
  have e2 : ys = p.list.map nD := by injection e with e; exact e.symm
  subst e2
  refine ⟨fun y hy => ?_, by rw [List.length_map, p.len]; omega⟩
  obtain ⟨n, _, rfl⟩ := List.mem_map.mp hy; rfl
def wD (is : List Int) : D := .tup (is.map D.int)
@[simp] theorem lf_wD {is : List Int} : lf (wD is) = true := by simp [wD, List.all_map]
def RM : D := .tup [.str "raised", .str "malformed"]
theorem fl_RM : Fl 1 RM := Fl.tup fun x hx => by
  simp only [List.mem_cons, List.not_mem_nil, or_false] at hx
  rcases hx with rfl | rfl
  · exact Fl.str (by decide +kernel)
  · exact Fl.str (by decide +kernel)
theorem ne_RM {st : Store} : fNe RM RM st = .ok (.bl false) st := fNe_self fl_RM
theorem compS_mapL {α : Type} {g : SG} {t : SB} {m : SE} {vs : List Nat} {τ : En} {h f : α → D} {st : Store} : ∀ (l : List α) (acc : List D), (∀ a ∈ l, ∃ τ1, g (h a) (wipeE τ vs) = some τ1 ∧ t τ1 st = .ok true st ∧ m τ1 st = .ok (f a) st) → acc.length + l.length ≤ sizeLine → compS g t m vs (l.map h) τ st acc = .ok (acc ++ l.map f) st
  | [], acc, _, _ => by simp [compS]
  | a :: l, acc, hh, hl => by
    obtain ⟨τ1, e1, e2, e3⟩ := hh a List.mem_cons_self
    have hl' : acc.length < sizeLine := by simp only [List.length_cons] at hl; omega
    rw [List.map_cons, compS, e1]
    dsimp only
    rw [e2]
    dsimp only
    rw [e3]
    dsimp only
    rw [if_pos hl', compS_mapL l _ (fun d hd => hh d (List.mem_cons_of_mem _ hd)) (by simp only [List.length_append, List.length_cons, List.length_nil] at hl ⊢; omega)]
    simp
def RT (r : Rt) : Prop := ∃ st', r = .rt (.bl true) st'
theorem RT_post {a b : SS} {τ : En} {st : Store} (Φ : En → Store → Prop) (h : ∃ τ1 st1, a τ st = .nx τ1 st1 ∧ Φ τ1 st1) (k : ∀ τ1 st1, Φ τ1 st1 → RT (b τ1 st1)) : RT (sSeq a b τ st) := by
  obtain ⟨τ1, st1, e, hΦ⟩ := h
  rw [x_sSeq, e, Rt.seq_nx]
  exact k _ _ hΦ
theorem okV_of {x : D} (h : pl x = true) (h2 : ∀ ys, x ≠ .tup ys) : okV x := ⟨h, fun ys e => absurd e (h2 ys)⟩
theorem okV_range {n : Nat} (h : n ≤ 1000) : okV (.tup (rangeD 0 (n : Int))) := by
  refine ⟨rfl, fun ys e => ?_⟩
  have e2 : ys = rangeD 0 (n : Int) := by injection e with e; exact e.symm
  subst e2
  refine ⟨fun y hy => ?_, by simpa using h⟩
  obtain ⟨i, _, _, rfl⟩ := rangeD_mem.mp hy; rfl
theorem isP_range (n : Nat) : isP (.tup (rangeD 0 (n : Int))) = true := by rw [← lD_one]; exact isP_tp _
theorem lenD_range (n : Nat) : lenD (.tup (rangeD 0 (n : Int))) = n := by simp [lenD]
theorem lenD_tp (p : Pm d) : lenD (tp p) = d := by simp [tp, lD, lenD, p.len]
theorem okV_row {row : List (Pm d)} (hd : d ≤ 1000) : ∀ x ∈ row.map tp, okV x := fun x hx => by
  obtain ⟨p, _, rfl⟩ := List.mem_map.mp hx; exact okV_tp hd
theorem rD_len {row : List (Pm d)} : rD row = .tup (row.map tp) := rfl
theorem ne_row {row : List (Pm d)} {st : Store} : fNe (rD row) (rD row) st = .ok (.bl false) st := fNe_self (fl_rD _)
def prod (row : List (Pm d)) : Pm d := row.foldl (· * ·) Pm.one
theorem foldl_mul (row : List (Pm d)) (c : Pm d) : row.foldl (· * ·) c = c * prod row := by
  unfold prod
  induction row generalizing c with
  | nil => rfl
  | cons p row ih => rw [List.foldl_cons, List.foldl_cons, ih, ih (Pm.one * p), Pm.one_mul, Pm.assoc]
theorem prod_cons (p : Pm d) (row : List (Pm d)) : prod (p :: row) = p * prod row := by
  rw [prod, List.foldl_cons, foldl_mul, Pm.one_mul]
theorem prod_snoc (p : Pm d) (row : List (Pm d)) : prod (row ++ [p]) = prod row * p := by
  rw [prod, List.foldl_append]; rfl
end Fx

set_option Elab.async false
set_option linter.all false
set_option maxRecDepth 100000
set_option maxHeartbeats 4000000
namespace Fx
open PySem L2 PyProof.Rows
/-! ### len(set(t)), t a tuple of ints -/
def dd : List Int → List Int
  | [] => []
  | x :: xs => if x ∈ xs then dd xs else x :: dd xs
theorem mem_dd {y : Int} : ∀ {xs : List Int}, y ∈ dd xs ↔ y ∈ xs
  | [] => Iff.rfl
  | x :: xs => by
    rw [dd]
    split
    · rename_i h
      rw [mem_dd, List.mem_cons]
      exact ⟨.inr, fun z => z.elim (fun e => e ▸ h) id⟩
    · rw [List.mem_cons, List.mem_cons, mem_dd]
theorem dd_nodup : ∀ (xs : List Int), (dd xs).Nodup
  | [] => .nil
  | x :: xs => by
    rw [dd]
    split
    · exact dd_nodup xs
    · rename_i h
      exact List.nodup_cons.mpr ⟨fun z => h (mem_dd.mp z), dd_nodup xs⟩
theorem dd_len : ∀ (xs : List Int), (dd xs).length ≤ xs.length
  | [] => Nat.le_refl _
  | x :: xs => by
    have := dd_len xs
    rw [dd]
    split
    · simp only [List.length_cons]; omega
    · simp only [List.length_cons]; omega
theorem dd_own : ∀ {xs : List Int}, xs.Nodup → dd xs = xs
  | [], _ => rfl
  | x :: xs, h => by
    obtain ⟨h1, h2⟩ := List.nodup_cons.mp h
    rw [dd, if_neg h1, dd_own h2]
theorem dd_full : ∀ {xs : List Int}, (dd xs).length = xs.length → xs.Nodup
  | [], _ => .nil
  | x :: xs, h => by
    rw [dd] at h
    split at h
    · have := dd_len xs
      simp only [List.length_cons] at h; omega
    · rename_i hx
      simp only [List.length_cons] at h
      exact List.nodup_cons.mpr ⟨hx, dd_full (by omega)⟩
section
variable {X : Cx} {W : WX} {e a : Expr} {m : SE} {p p2 q pos : Pos}
def tLenSetT (K : PySem.W.Frag) (ta : TE) : TE := fun σ H Q => ta σ H fun x H1 => ∃ (l : Addr) (ns : List Int), x = V.ref l ∧ SqT K H1 l (ns.map V.int) ∧ ns.length ≤ 4000 ∧ Q (.int ((dd ns).length : Nat)) H1
theorem pe_lenSetT {ta : TE} (hg : Gl X "len") (hm : X.mg "len" = none) (hg2 : Gl X "set") (hm2 : X.mg "set" = none) (ha : PE X a ta) (hc : X.calm = true)
    (na : starEach [a] X.env = (false, eval a X.env) :: starEach [] X.env) : PE X (.Call (.Name "len" p) [.Call (.Name "set" p2) [a] [] q] [] pos) (tLenSetT X.K ta) := by
  refine ⟨fun pins s σ H Q I h => ?_⟩
  refine Call_ (ld_blt I hg hm PySem.boot_len ?_)
  refine PyProof.Rows.callWith_builtin1 (PyProof.Rows.args_cons ?_ rfl) rfl rfl
  refine Call_ (ld_blt I hg2 hm2 PyProof.Rows.boot_set ?_)
  refine PyProof.Rows.callWith_type1 (PyProof.Rows.args_cons (thn (ha.run pins s σ H _ I h) fun v s1 ⟨x, H1, I1, r1, q1⟩ => PyProof.Rows.args_nil ?_) na) na rfl
  obtain ⟨l, ns, rfl, hq, h1, q1⟩ := q1
  cases r1
  obtain ⟨its, r, pl, hz⟩ := I1.tuple hq
  refine call_set_tupI ns (I1.ok.hd hc) (show s1.heap.IsTuple l its.toArray from pl) (by simpa using r.ints) (by unfold scanBound; omega) fun h' tk c hS hcl hk => ?_
  refine PyProof.Rows.args_nil ?_
  obtain ⟨o, es, ep, t, ho, hex, hd, hgood, hnd, hmem, _, hf, hn, _⟩ := hS
  have I2 : Inv X pins σ H1 { s1 with heap := h', toks := tk } := I1.kept fun b o e => hk b o e
  have hlen : es.size = (dd ns).length := by
    have hp : (es.toList.map L2.keyOf).Perm (dd ns) := (List.perm_ext_iff_of_nodup hnd (dd_nodup ns)).2 fun k => by
      rw [← hmem k, mem_dd, decide_eq_true_iff]
    have := hp.length_eq
    simpa using this
  refine call_len_set ho hex hd hf (by have := dd_len ns; rw [hlen] <;> omega) ⟨.int (dd ns).length, H1, I2.tok _, ⟨_, by rw [hlen]⟩, q1⟩
def mLenSet (m : SE) : SE := fun τ st => (m τ st).bind fun d st1 => match d with
  | .tup xs => (match intsOf xs with
    | some ns => if ns.length ≤ 4000 then .ok (.int ((dd ns).length : Nat)) st1 else .no
    | none => .no)
  | _ => .no
theorem ev_lenSet (hm : X.mg "len" = none) (hm2 : X.mg "set" = none) (ha : EvE X W a m) (hg : Gl X "len" := by rfl) (hg2 : Gl X "set" := by rfl) (hc : X.calm = true := by rfl)
    (na : starEach [a] X.env = (false, eval a X.env) :: starEach [] X.env := by rfl) : EvE X W (.Call (.Name "len" p) [.Call (.Name "set" p2) [a] [] q] [] pos) (mLenSet m) :=
  PE.imp (pe_lenSetT hg hm hg2 hm2 ha hc na) fun σ H Q ⟨ρ, τ, st, r0, en, o⟩ => tM.bind r0 en o fun d st1 ρ1 H1 v e1 r1 en1 q o1 => by
    cases d with
    | tup xs =>
      simp only [RelD] at q
      obtain ⟨l, vs, rfl, hs, rv⟩ := q
      cases hx : intsOf xs with
      | none => simp only [hx] at o1; exact o1.elim
      | some ns =>
        simp only [hx] at o1
        split at o1
        · rename_i hl
          have ex := intsOf_eq hx
          subst ex
          rw [rv.ints] at hs
          exact ⟨l, ns, rfl, SqT.of hs, hl, o1.here r1 (by simp [reD, RelD])⟩
        · exact o1.elim
    | _ => exact o1.elim
@[simp] theorem x_mLenSet {σ : En} {st : Store} : mLenSet m σ st = (m σ st).bind fun d st1 => match d with
  | .tup xs => (match intsOf xs with
    | some ns => if ns.length ≤ 4000 then .ok (.int ((dd ns).length : Nat)) st1 else .no
    | none => .no)
  | _ => .no := rfl
end
/-! ### str(i) -/
def strI (i : Int) : Str := toString i
theorem ex_txFits : ∃ f : Int → Bool, ∀ i : Int, f i = true ↔ i.natAbs.log2 < 1920 := ⟨fun i => decide (i.natAbs.log2 < 1920), fun i => decide_eq_true_iff⟩
noncomputable def txFits : Int → Bool := ex_txFits.choose
theorem txFits_iff {i : Int} : txFits i = true ↔ i.natAbs.log2 < 1920 := ex_txFits.choose_spec i
theorem ex_strI : ∃ f : Int → Str, ∀ i : Int, f i = toString i := ⟨fun i => toString i, fun _ => rfl⟩
noncomputable def txI : Int → Str := ex_strI.choose
theorem txI_eq (i : Int) : txI i = toString i := ex_strI.choose_spec i
noncomputable def fStr : FB D := fun ds st => match ds with
  | [.int i] => if txFits i = true then .ok (.str (txI i)) st else .no
  | _ => .no
theorem cs_str {X : Cx} : CallS X (reD X.K) (.type "str") fStr := by
  refine ⟨_, call_str_int, fun W σ ρ st H ds vs Q r rv o => ?_⟩
  match ds, rv, o with
  | [.int i], rv, o =>
    obtain ⟨v, rfl, rd⟩ := rv.one
    simp only [RelD] at rd; subst rd
    simp only [fStr] at o
    split at o
    · rename_i hz
      exact ⟨i, rfl, txFits_iff.mp hz, o.here r (by simp [reD, RelD, txI_eq])⟩
    · exact o.elim
  | [], _, o => exact o.elim
  | [.non], _, o | [.str _], _, o | [.bl _], _, o | [.ty _], _, o | [.fn _], _, o | [.tup _], _, o | [.lst _], _, o | [.loc _], _, o => exact o.elim
  | _ :: _ :: _, _, o => simp [fStr] at o; exact o.elim
@[simp] theorem x_str {i : Int} {st : Store} : fStr [.int i] st = if txFits i = true then .ok (.str (txI i)) st else .no := rfl
theorem txFits_of {i : Int} (h1 : -1000000000 ≤ i) (h2 : i ≤ 1000000000) : txFits i = true := by
  refine txFits_iff.mpr ?_
  by_cases c : i.natAbs = 0
  · rw [c]; decide
  · have : i.natAbs.log2 < 30 := (Nat.log2_lt c).mpr (by omega)
    omega
/-! ### loops over a list that can be written -/
def ItL (K : PySem.W.Frag) (ρ : Mp) (st : Store) (H : Hp) (J : It) (n : Nat) (ds : List D) : Prop :=
  ∀ (ρ2 : Mp) (st2 : Store) (H2 : Hp), ExtW ρ st.length H ρ2 st2.length H2 → R K ρ2 st2 H2 → st2[n]? = some (.lst ds) → ∀ i : Nat,
    (∀ d, ds[i]? = some d → J.go i H2 ∧ ∀ x H3, J.yld i H2 x H3 → Ext ρ2 st2.length H2 ρ2 st2.length H3 ∧ R K ρ2 st2 H3 ∧ RelD K ρ2 st2.length H3 d x) ∧
    (ds.length ≤ i → J.stop i H2)
def reIL (K : PySem.W.Frag) : Rl (Nat × List D) It := fun _ ρ st H nd J => st[nd.1]? = some (.lst nd.2) ∧ ItL K ρ st H J nd.1 nd.2
instance {K : PySem.W.Frag} : RlOk K (reIL K) := ⟨fun _ _ h => h⟩
abbrev EvIL (X : Cx) (W : WX) (tg iter : Expr) (m : En → Store → Rs (Nat × List D)) : Prop := PI X tg iter (tM X.K (reIL X.K) W m)
def mItL (m : SE) : En → Store → Rs (Nat × List D) := fun σ st => (m σ st).bind fun d st1 => match d with
  | .loc n => (match st1[n]? with
    | some (.lst xs) => .ok (n, xs) st1
    | _ => .no)
  | _ => .no
section
variable {X : Cx} {W : WX} {e a b c tg iter : Expr} {es ifs : List Expr} {s : Stmt} {ss bs : List Stmt} {m ma mb mc : SE} {ms mi : SA} {ml : En → Store → Rs (Nat × List D)} {t : SB} {u v w : SS} {pos : Pos}
theorem itL_list {K : PySem.W.Frag} {ρ : Mp} {st : Store} {H : Hp} {n : Nat} {ds : List D} (r : R K ρ st H) (h : st[n]? = some (.lst ds)) : ItL K ρ st H (Itl K (ρ.at' n)) n ds := fun ρ2 st2 H2 e r2 h2 i => by
  have hl : n < st.length := (List.getElem?_eq_some_iff.mp h).1
  obtain ⟨vs, hv, rv⟩ : ∃ vs, H2 (ρ2.at' n) = some (.lst vs) ∧ RelDs K ρ2 st2.length H2 ds vs := r2.obj n _ h2
  rw [e.old n hl] at hv
  have hq : SqL K H2 (ρ.at' n) vs := .inl (.inl hv)
  refine ⟨fun d hd => ?_, fun hl => ⟨vs, hq, by rw [rv.len]; exact hl⟩⟩
  obtain ⟨v, hv2, rd⟩ := rv.get hd
  refine ⟨⟨vs, v, hq, hv2⟩, fun x H3 ⟨e3, q⟩ => ?_⟩
  subst e3
  have q' := q vs hq
  rw [hv2] at q'; cases q'
  exact ⟨.refl, r2, rd⟩
theorem eil_seq (h : EvE X W e m) : EvIL X W tg e (mItL m) := by
  refine ⟨fun pins s σ H Rr I q => ?_⟩
  obtain ⟨ρ, τ, st, r0, en, o⟩ := q
  refine thn (h.run pins s σ H (fun x H1 => ∃ a, x = .ref a ∧ ∃ vs, SqL X.K H1 a vs ∧ ∃ ρ1 st1 n ds, R X.K ρ1 st1 H1 ∧ a = ρ1.at' n ∧ st1[n]? = some (.lst ds) ∧ Out X.K (reIL X.K) W σ ρ1 st1.length H1 Rr (.ok (n, ds) st1)) I ?_) fun v s1 ⟨x, H1, I1, r1, q1⟩ => ?_
  · refine tM.bind (Ra := reD X.K) (Rg := reIL X.K) r0 en o fun d st1 ρ1 H1 v e1 r1 en1 q o1 => ?_
    cases d with
    | loc n =>
      simp only at o1
      split at o1
      · rename_i xs hx
        simp only [RelD] at q
        obtain ⟨vs, hv, rv⟩ : ∃ vs, H1 (ρ1.at' n) = some (.lst vs) ∧ RelDs X.K ρ1 st1.length H1 xs vs := r1.obj n _ hx
        exact ⟨ρ1.at' n, q.1, vs, .inl (.inl hv), ρ1, st1, n, xs, r1, rfl, hx, o1⟩
      · exact o1.elim
    | _ => exact o1.elim
  · obtain ⟨a, e, vs, hq, ρ1, st1, n, ds, rr, ea, hx, o1⟩ := q1
    subst e
    cases r1
    obtain ⟨its, rw', p, hz⟩ := I1.list hq
    refine wpAny_pyIter_list p.isList ?_
    refine ⟨s1.heap.objs.size, [s1.heap.objs.size], _, Itl X.K a, H1, rfl, I1.kept (t' := s1.toks) fun b o e => Heap.get?_push_of_some _ e, turn_list a _, ⟨_, Heap.get?_push_size _ rfl, rfl, rfl⟩, fun b hb => ?_, o1 ρ1 H1 _ .refl rr ⟨hx, by rw [ea]; exact itL_list rr hx⟩⟩
    have e : b = s1.heap.objs.size := by simpa using hb
    subst e
    exact I1.fpOk (Nat.le_refl _) (I1.hok.fresh (Nat.le_refl _))
open Classical in
/-- the body, which must leave the list as it was -/
noncomputable def chkS (n : Nat) (xs : List D) (b : SS) : SS := fun τ st => match b τ st with
  | .nx τ' st' => if st'[n]? = some (.lst xs) then .nx τ' st' else .no
  | .ct τ' st' => if st'[n]? = some (.lst xs) then .ct τ' st' else .no
  | r => r
theorem chkS_nx {n : Nat} {xs : List D} {b : SS} {τ τ' : En} {st st' : Store} (h : b τ st = .nx τ' st') (h2 : st'[n]? = some (.lst xs)) : chkS n xs b τ st = .nx τ' st' := by
  simp only [chkS, h, h2, if_true]
theorem chkS_rt {n : Nat} {xs : List D} {b : SS} {τ : En} {st st' : Store} {d : D} (h : b τ st = .rt d st') : chkS n xs b τ st = .rt d st' := by
  simp only [chkS, h]
theorem chkS_er {n : Nat} {xs : List D} {b : SS} {τ τ' : En} {st st' : Store} {d : Ex} (h : b τ st = .er d τ' st') : chkS n xs b τ st = .er d τ' st' := by
  simp only [chkS, h]
noncomputable def sForL (ml : En → Store → Rs (Nat × List D)) (g : SG) (b : SS) : SS := fun τ st => (ml τ st).go τ fun nd st1 => forS g (chkS nd.1 nd.2 b) nd.2 τ st1
theorem es_forL {vs : List Nat} {g : SG} (hp : PassesOwn (model X.prog X.w) X.A X.env X.xe) (hc : X.calm = true) (hi : EvIL X W tg iter ml) (hg : EvG X vs tg g) (hb : EvSs X W ss u)
    (hs : ∀ x, foldedSetIterable iter X.env x = pure x := by intro _; rfl) : EvS X W (.For tg iter ss [] pos) (sForL ml g u) := PS.imp (ps_for hp hc hi hg hb hs) fun D σ H ⟨ρ, τ, st, r0, en, o⟩ =>
  tM.goS r0 en o fun nd st1 ρ1 H1 J e1 r1 en1 q o1 => by
    obtain ⟨n, ds⟩ := nd
    obtain ⟨hx, q⟩ := q
    simp only at hx q o1
    refine ⟨fun i m σ H => m = ds.length - i ∧ i ≤ ds.length ∧ ∃ ρ τ st, Ext ρ1 st1.length H1 ρ st.length H ∧ R X.K ρ st H ∧ EnvR X.K ρ st.length H τ σ ∧ st[n]? = some (.lst ds) ∧ OutS X.K W ρ st.length H D (forS g (chkS n ds u) (ds.drop i) τ st),
      ⟨_, rfl, Nat.zero_le _, ρ1, τ, st1, .refl, r1, en1, hx, by rw [List.drop_zero]; exact o1⟩, fun i m σ H ⟨hm, hi, ρ, τ, st, ex, r, en, hst, o⟩ => ?_⟩
    obtain ⟨go, stop⟩ := q ρ st H ex.w r hst i
    by_cases hl : i < ds.length
    · have hd : ds[i]? = some ds[i] := List.getElem?_eq_getElem hl
      obtain ⟨g1, g2⟩ := go _ hd
      refine .inr ⟨g1, fun σ H => (ds.length - (i + 1)) = ds.length - (i + 1) ∧ i + 1 ≤ ds.length ∧ ∃ ρ τ st, Ext ρ1 st1.length H1 ρ st.length H ∧ R X.K ρ st H ∧ EnvR X.K ρ st.length H τ σ ∧ st[n]? = some (.lst ds) ∧ OutS X.K W ρ st.length H D (forS g (chkS n ds u) (ds.drop (i + 1)) τ st),
        fun σ' H' h => ⟨ds.length - (i + 1), by omega, h⟩, fun x H3 hy => ?_⟩
      obtain ⟨e3, r3, rd⟩ := g2 x H3 hy
      rw [List.drop_eq_getElem_cons hl] at o
      simp only [forS] at o
      refine ⟨ρ, τ, st, _, r3, en.mono e3 r, rd, ?_⟩
      cases e2 : g ds[i] τ with
      | none => rw [e2] at o; exact o
      | some τ1 =>
        rw [e2] at o
        simp only at o
        intro σ1 en1' _
        refine ⟨ρ, τ1, st, r3, en1', ?_⟩
        have o' := OutS.shift o r e3 r3
        have ex3 := ex.trans r1 r e3
        cases e4 : u τ1 st with
        | nx a s =>
          by_cases hc2 : s[n]? = some (.lst ds)
          · rw [chkS_nx e4 hc2] at o'; exact fun ρ' H' σ' e' r' en' => ⟨rfl, hl, ρ', a, s, ex3.trans r1 r3 e', r', en', hc2, OutS.shift o' r3 e' r'⟩
          · have : chkS n ds u τ1 st = .no := by simp only [chkS, e4, if_neg hc2]
            rw [this] at o'; exact o'.elim
        | ct a s =>
          by_cases hc2 : s[n]? = some (.lst ds)
          · have : chkS n ds u τ1 st = .ct a s := by simp only [chkS, e4, if_pos hc2]
            rw [this] at o'; exact fun ρ' H' σ' e' r' en' => ⟨rfl, hl, ρ', a, s, ex3.trans r1 r3 e', r', en', hc2, OutS.shift o' r3 e' r'⟩
          · have : chkS n ds u τ1 st = .no := by simp only [chkS, e4, if_neg hc2]
            rw [this] at o'; exact o'.elim
        | no => simp only [chkS, e4] at o'; exact o'
        | bk a s => simp only [chkS, e4] at o'; exact o'
        | rt a s => simp only [chkS, e4] at o'; exact o'
        | er x a s => simp only [chkS, e4] at o'; exact o'
    · refine .inl ⟨stop (by omega), ?_⟩
      rw [List.drop_eq_nil_of_le (by omega)] at o
      exact o.next r en
end
end Fx

set_option Elab.async false
set_option linter.all false
set_option maxRecDepth 100000
set_option maxHeartbeats 4000000
namespace Fx
open PySem L2
open Classical in
noncomputable def chkE (n : Nat) (xs : List D) (m : SE) : SE := fun τ st => match m τ st with
  | .ok y st' => if st'[n]? = some (.lst xs) then .ok y st' else .no
  | r => r
open Classical in
noncomputable def chkB (n : Nat) (xs : List D) (m : SB) : SB := fun τ st => match m τ st with
  | .ok y st' => if st'[n]? = some (.lst xs) then .ok y st' else .no
  | r => r
theorem chkE_ok {n : Nat} {xs : List D} {m : SE} {τ : En} {st st' : Store} {y : D} (h : m τ st = .ok y st') (h2 : st'[n]? = some (.lst xs)) : chkE n xs m τ st = .ok y st' := by
  simp only [chkE, h, h2, if_true]
theorem chkB_ok {n : Nat} {xs : List D} {m : SB} {τ : En} {st st' : Store} {y : Bool} (h : m τ st = .ok y st') (h2 : st'[n]? = some (.lst xs)) : chkB n xs m τ st = .ok y st' := by
  simp only [chkB, h, h2, if_true]
theorem chkE_inv {n : Nat} {xs : List D} {m : SE} {τ : En} {st st' : Store} {y : D} (h : chkE n xs m τ st = .ok y st') : m τ st = .ok y st' ∧ st'[n]? = some (.lst xs) := by
  simp only [chkE] at h
  split at h
  · rename_i y2 s2 e
    split at h
    · rename_i hc; cases h; exact ⟨e, hc⟩
    · cases h
  · rename_i hne; exact absurd h (hne _ _)
theorem chkB_inv {n : Nat} {xs : List D} {m : SB} {τ : En} {st st' : Store} {y : Bool} (h : chkB n xs m τ st = .ok y st') : m τ st = .ok y st' ∧ st'[n]? = some (.lst xs) := by
  simp only [chkB] at h
  split at h
  · rename_i y2 s2 e
    split at h
    · rename_i hc; cases h; exact ⟨e, hc⟩
    · cases h
  · rename_i hne; exact absurd h (hne _ _)
noncomputable def mCompL (ml : En → Store → Rs (Nat × List D)) (g : SG) (t : SB) (m : SE) (vs : List Nat) : SA := fun τ st => (ml τ st).bind fun nd st1 => compS g (chkB nd.1 nd.2 t) (chkE nd.1 nd.2 m) vs nd.2 τ st1 []
section
variable {X : Cx} {W : WX} {e a b c tg iter : Expr} {es ifs : List Expr} {m : SE} {ml : En → Store → Rs (Nat × List D)} {t : SB} {pos : Pos}
theorem tM.lcL {g : SG} {vs : List Nat} {σ : St} {H : Hp} {Q : VK} (h : tM X.K (reN X.K) W (mCompL ml g t m vs) σ H Q) : tLc (tM X.K (reIL X.K) W ml) (tG X.K vs g) (tM X.K reB W0 t) (tM X.K (reD X.K) W0 m) vs σ H Q := by
  obtain ⟨ρ, τ, st, r0, en, o⟩ := h
  refine tM.bind (Ra := reIL X.K) r0 en (show Out X.K (reN X.K) W σ ρ st.length H (fun v H' => Q v H') _ from o) fun nd st1 ρ1 H1 J e1 r1 en1 q o1 => ?_
  obtain ⟨n, ds⟩ := nd
  obtain ⟨hx, q⟩ := q
  simp only at hx q o1
  intro p hp
  have hpH : ∀ {x : Addr}, H1 x = none → H x = none := fun z => e1.none_of r1 z
  refine ⟨fun i k H' => k = ds.length - i ∧ i ≤ ds.length ∧ ∃ ρ' st' acc us, ρ'.hid = ρ1.hid ∧ Ext ρ1 st1.length H1 ρ' st'.length H' ∧ R X.K (ρ'.hide p) st' H' ∧ EnvR X.K (ρ'.hide p) st'.length H' τ σ ∧ H' p = some (.lst us) ∧
      RelDs X.K (ρ'.hide p) st'.length H' acc us ∧ st'[n]? = some (.lst ds) ∧ Out X.K (reN X.K) W σ ρ1 st1.length H1 Q (compS g (chkB n ds t) (chkE n ds m) vs (ds.drop i) τ st' acc), ⟨_, rfl, Nat.zero_le _, ρ1, st1, [], [], rfl, r1.push_ext hp, r1.hide hp rfl, en1.hideN hp, upd_same, .nil, hx, by rw [List.drop_zero]; exact o1⟩, fun i k H' ⟨hk, hi, ρ', st', acc, us, hh, ex, rr, en', hpu, ra, hst, oo⟩ => ?_⟩
  have rs := R.show' rr
  obtain ⟨go, stop⟩ := q (ρ'.hide p) st' H' (ex.hideW hp) rr hst i
  by_cases hl : i < ds.length
  · have hd : ds[i]? = some ds[i] := List.getElem?_eq_getElem hl
    obtain ⟨g1, g2⟩ := go _ hd
    rw [List.drop_eq_getElem_cons hl] at oo
    simp only [compS] at oo
    refine .inr ⟨g1, fun H' => ∃ ρ' st' acc us, ρ'.hid = ρ1.hid ∧ Ext ρ1 st1.length H1 ρ' st'.length H' ∧ R X.K (ρ'.hide p) st' H' ∧ EnvR X.K (ρ'.hide p) st'.length H' τ σ ∧ H' p = some (.lst us) ∧
      RelDs X.K (ρ'.hide p) st'.length H' acc us ∧ st'[n]? = some (.lst ds) ∧ Out X.K (reN X.K) W σ ρ1 st1.length H1 Q (compS g (chkB n ds t) (chkE n ds m) vs (ds.drop (i + 1)) τ st' acc), fun H2 h => ⟨ds.length - (i + 1), by omega, rfl, hl, h⟩, fun x H3 hy => ?_⟩
    obtain ⟨e3, r3, rd⟩ := g2 x H3 hy
    have en3 := (en'.mono e3 rr).wipe vs
    refine ⟨ρ'.hide p, wipeE τ vs, st', _, r3, en3, rd, ?_⟩
    cases q1 : g ds[i] (wipeE τ vs) with
    | none => rw [q1] at oo; exact oo
    | some τ1 =>
      rw [q1] at oo
      simp only at oo
      refine fun σ1 en4 w1 => ⟨w1.trans wipe_wipe, ρ'.hide p, τ1, st', r3, en4, ?_⟩
      have ra3 := RelDs.mono e3 rr acc ra
      have nxt : ∀ {ρ4 : Mp} {st4 : Store} {H4 : Hp}, Ext (ρ'.hide p) st'.length H' ρ4 st4.length H4 → R X.K ρ4 st4 H4 → ∃ ρ5 : Mp, ρ5.hid = ρ1.hid ∧ ρ4 = ρ5.hide p ∧ Ext ρ1 st1.length H1 ρ5 st4.length H4 ∧ H4 p = some (.lst us) := fun {ρ4 st4 H4} e4 r4 => by
        have u := unhide (ρ := ρ') (p := p) e4.hid
        refine ⟨⟨ρ4.at', ρ'.hid⟩, hh, u, ex.trans r1 rs (st' := st') ?_, e4.keep p _ hpu fun i hi z => rr.sep i hi (.inr z)⟩
        exact ⟨e4.le, e4.old, e4.new, e4.keep, rfl⟩
      cases q2 : chkB n ds t τ1 st' with
      | no =>
        rw [q2] at oo; exact oo.elim
      | er x s => rw [q2] at oo; exact oo.elim
      | ok b st2 =>
        rw [q2] at oo
        obtain ⟨q2', hst2⟩ := chkB_inv q2
        rw [q2']
        intro ρ4 H4 b' e4 r4 hb
        cases (show b = b' from hb)
        have e34 := e3.trans rr r3 e4
        obtain ⟨ρ5, h5, u5, ex5, hp5⟩ := nxt e34 r4
        have en5 : EnvR X.K ρ4 st2.length H4 τ σ := (en'.mono e34 rr)
        have ra5 := RelDs.mono e34 rr acc ra
        cases b with
        | false =>
          subst u5
          exact ⟨ρ5, st2, acc, us, h5, ex5, r4, en5, hp5, ra5, hst2, oo⟩
        | true =>
          simp only at oo
          refine ⟨ρ4, τ1, st2, r4, en4.mono e4 r3, ?_⟩
          cases q3 : chkE n ds m τ1 st2 with
          | no => rw [q3] at oo; exact oo.elim
          | er x s => rw [q3] at oo; exact oo.elim
          | ok y st6 =>
            rw [q3] at oo
            obtain ⟨q3', hst6⟩ := chkE_inv q3
            rw [q3']
            simp only at oo
            split at oo
            · rename_i hz
              intro ρ6 H6 vy e6 r6 ry
              have e36 := e34.trans rr r4 e6
              obtain ⟨ρ7, h7, u7, ex7, hp7⟩ := nxt e36 r6
              have ra7 := RelDs.mono e36 rr acc ra
              refine ⟨us, hp7, by rw [← ra7.len] at hz; exact hz, ?_⟩
              subst u7
              have ry' : RelD X.K (ρ7.hide p) st6.length H6 y vy := ry
              exact ⟨ρ7, st6, acc ++ [y], us ++ [vy], h7, ex7.upd_new hp, r6.hw hp7 rfl, (en'.mono e36 rr).hw hp7, upd_same, RelDs.hw hp7 _ (ra7.append (.cons ry' .nil)), hst6, oo⟩
            · exact oo.elim
  · refine .inl ⟨stop (by omega), ?_⟩
    rw [List.drop_eq_nil_of_le (by omega)] at oo
    exact oo ρ' H' (.ref p) ex rs ⟨p, us, rfl, hp, hpu, rr, ra⟩
theorem ef_compL {scope : Scope} {own : List (Str × Nat)} {g : SG} {ifs : List Expr} (hc : X.calm = true) (hN : X.N.Nodup) (hi : EvIL X W tg iter ml) (ok : BlkOk X.N X.env.scope scope own)
    (hg : ∀ (s : Shared) (H : Hp) (C : Addr) (cl : List (Str × Addr)) (fp : List Addr), EvG (X.blk s H scope (compEnvC scope cl C X.env) fp) (own.map (·.2)) tg g)
    (ht : ∀ (s : Shared) (H : Hp) (C : Addr) (cl : List (Str × Addr)) (fp : List Addr), EvT (X.blk s H scope (compEnvC scope cl C X.env) fp) W0 ifs t)
    (he : ∀ (s : Shared) (H : Hp) (C : Addr) (cl : List (Str × Addr)) (fp : List Addr), EvE (X.blk s H scope (compEnvC scope cl C X.env) fp) W0 e m)
    (hs : ∀ x, foldedSetIterable iter X.env x = pure x := by intro _; rfl) :
    EvF X W (.ListComp e [⟨tg, iter, ifs, 0⟩] scope pos) (mCompL ml g t m (own.map (·.2))) :=
  PE.imp (pe_lc (g := tG X.K (own.map (·.2)) g) (tt := tM X.K reB W0 t) (te := tM X.K (reD X.K) W0 m) hc hN hi ok hg ht he hs) fun σ H Q h => tM.lcL h
theorem ps_setCL {i : Nat} {y : Str} {py spos : Pos} {scope : Scope} {own : List (Str × Nat)} {g : SG} {ifs : List Expr} {sm : SA → SE} (hsm : ∀ σ H Q, tM X.K (reD X.K) W (sm (mCompL ml g t m (own.map (·.2)))) σ H Q → tM X.K (reN X.K) W (mCompL ml g t m (own.map (·.2))) σ H Q)
    (hc : X.calm = true) (hN : X.N.Nodup) (hi : EvIL X W tg iter ml) (ok : BlkOk X.N X.env.scope scope own)
    (hg : ∀ (s : Shared) (H : Hp) (C : Addr) (cl : List (Str × Addr)) (fp : List Addr), EvG (X.blk s H scope (compEnvC scope cl C X.env) fp) (own.map (·.2)) tg g)
    (ht : ∀ (s : Shared) (H : Hp) (C : Addr) (cl : List (Str × Addr)) (fp : List Addr), EvT (X.blk s H scope (compEnvC scope cl C X.env) fp) W0 ifs t)
    (he : ∀ (s : Shared) (H : Hp) (C : Addr) (cl : List (Str × Addr)) (fp : List Addr), EvE (X.blk s H scope (compEnvC scope cl C X.env) fp) W0 e m)
    (hy : X.N[i]? = some y := by rfl) (hyl : X.env.scope.names.lookup y = some .local := by rfl)
    (hsw : swapsWith (.ListComp e [⟨tg, iter, ifs, 0⟩] scope pos) (some (.Name y py)) spos.line X.env = pure true := by exact sw_true rfl rfl rfl (by decide +kernel))
    (hs : ∀ x, foldedSetIterable iter X.env x = pure x := by intro _; rfl) :
    EvS X W (.Assign [.Name y py] (.ListComp e [⟨tg, iter, ifs, 0⟩] scope pos) spos) (sSet i (sm (mCompL ml g t m (own.map (·.2))))) :=
  PS.imp (ps_setLc (own := own) (g := tG X.K (own.map (fun p : Str × Nat => p.2)) g) (tt := tM X.K reB W0 t) (te := tM X.K (reD X.K) W0 m) hc hN hy hyl hsw hi ok hg ht he hs) fun D σ H ⟨ρ, τ, st, r0, en, o⟩ =>
    tM.lcL (hsm σ H _ (tM.goS r0 en o fun d st1 ρ1 H1 v e1 r1 en1 q o1 => o1.next r1 (en1.set q i)))
end
@[simp] theorem x_mItL {m : SE} {σ : En} {st : Store} : mItL m σ st = (m σ st).bind fun d st1 => match d with
  | .loc n => (match st1[n]? with
    | some (.lst xs) => .ok (n, xs) st1
    | _ => .no)
  | _ => .no := rfl
@[simp] theorem x_sForL {ml : En → Store → Rs (Nat × List D)} {g : SG} {b : SS} {τ : En} {st : Store} : sForL ml g b τ st = (ml τ st).go τ fun nd st1 => forS g (chkS nd.1 nd.2 b) nd.2 τ st1 := rfl
@[simp] theorem x_mCompL {ml : En → Store → Rs (Nat × List D)} {g : SG} {t : SB} {m : SE} {vs : List Nat} {τ : En} {st : Store} : mCompL ml g t m vs τ st = (ml τ st).bind fun nd st1 => compS g (chkB nd.1 nd.2 t) (chkE nd.1 nd.2 m) vs nd.2 τ st1 [] := rfl
theorem chkB_yes {n : Nat} {xs : List D} {τ : En} {st : Store} (h : st[n]? = some (.lst xs)) : chkB n xs mYes τ st = .ok true st := chkB_ok rfl h
end Fx

set_option Elab.async false
set_option linter.all false
set_option maxRecDepth 100000
set_option maxHeartbeats 4000000
namespace Fx
open PySem L2 PyProof.Rows PySem.Spec
theorem tuple_mulS (l : Addr) (items : Array Value) (n : Nat) (dd : Option Addr) (sl : Array (Option Value)) (x : Int) (u : Tok) (c0 : (decide (x < -(2 ^ 63)) || decide (x ≥ 2 ^ 63)) = false) (c1 : (items.isEmpty || x == 1) = true) :
    Meets (Builtin.«tuple.__mul__» ⟨[.ref l, .int x u], []⟩) (fun _ R s => s.heap.get? l = some { cls := .type "tuple", dict := dd, data := .seq items n, slots := sl } ∧ R (.ok (.ret (Value.ref l))) s) :=
  .of_wp fun prog w A R s h => by
    obtain ⟨hp, g, d, tk, os⟩ := s
    obtain ⟨hl, h⟩ := h
    have f1 := AutoSeq1.idx_int
    wp_walk using wpAny_loadPart' hl
    repeat (first
      | (refine wpAny_ite_false (decide_eq_false (by rw [c0]; exact Bool.false_ne_true)) ?_; wp_walk using wpAny_loadPart' hl)
      | (refine wpAny_ite_true (decide_eq_true c1) ?_; wp_walk using wpAny_loadPart' hl))
    exact ⟨_, rfl, h⟩
theorem tuple_mul0 (l : Addr) (items : Array Value) (n : Nat) (dd : Option Addr) (sl : Array (Option Value)) (x : Int) (u : Tok) (c0 : (decide (x < -(2 ^ 63)) || decide (x ≥ 2 ^ 63)) = false) (c1 : (items.isEmpty || x == 1) = false) (c2 : (decide (x ≤ 0) || items.isEmpty) = true) :
    Meets (Builtin.«tuple.__mul__» ⟨[.ref l, .int x u], []⟩) (fun _ R s => s.heap.get? l = some { cls := .type "tuple", dict := dd, data := .seq items n, slots := sl } ∧
      R (.ok (.ret (Value.ref s.heap.objs.size))) { s with heap := s.heap.push { cls := Value.type "tuple", data := Data.seq #[] }, toks := s.toks }) :=
  .of_wp fun prog w A R s h => by
    obtain ⟨hp, g, d, tk, os⟩ := s
    obtain ⟨hl, h⟩ := h
    have f1 := AutoSeq1.idx_int
    wp_walk using wpAny_loadPart' hl
    repeat (first
      | (refine wpAny_ite_false (decide_eq_false (by rw [c0]; exact Bool.false_ne_true)) ?_; wp_walk using wpAny_loadPart' hl)
      | (refine wpAny_ite_false (decide_eq_false (by rw [c1]; exact Bool.false_ne_true)) ?_; wp_walk using wpAny_loadPart' hl)
      | (refine wpAny_ite_true (decide_eq_true c2) ?_; wp_walk using wpAny_loadPart' hl))
    exact ⟨_, rfl, h⟩
def rRepG (K : PySem.W.Frag) : R2 := fun x y H Q => ∃ l k xs, x = .ref l ∧ y = .int k ∧ SqT K H l xs ∧ -1000000 ≤ k ∧ k ≤ 1000000 ∧ k.toNat * xs.length ≤ 1000000 ∧ (∀ p, H p = none → Q (.ref p) (upd H p (.tup (List.replicate k.toNat xs).flatten))) ∧ ((List.replicate k.toNat xs).flatten = xs → Q (.ref l) H)
section
variable {X : Cx} {W : WX}
theorem op_repG : OpR X (binaryOp .Mult) (rRepG X.K) := by
  intro pins s σ H x y v u Q I rx ry h
  obtain ⟨l, k, xs, rfl, rfl, hT, h1, h2, hz, q, q'⟩ := h
  cases rx
  obtain ⟨t, rfl⟩ := ry
  obtain ⟨its, r, ⟨⟨cls, dd, data, sl⟩, ho, hc, n, hd⟩, hs⟩ := I.tuple hT
  simp only at hc hd
  subst hc hd
  have hle : its.length = xs.length := r.length.symm
  have hsz0 : its.toArray.size = xs.length := by rw [List.size_toArray, hle]
  have c0 : (decide (k < -(2 ^ 63)) || decide (k ≥ 2 ^ 63)) = false := by
    rw [decide_eq_false (by omega), decide_eq_false (by omega)] <;> rfl
  by_cases c1 : (its.toArray.isEmpty || k == 1) = true
  · have hsame : (List.replicate k.toNat xs).flatten = xs := by
      cases xs with
      | nil => simp
      | cons a b =>
        cases its with
        | nil => simp at hle
        | cons a' b' =>
          have : k = 1 := by simpa using c1
          subst this; simp
    exact wpAny_binaryOp_repeat_ref (T := "tuple") (U := "int") (by decide) ⟨_, ho, rfl⟩ (fun s' => typeIs_int s' k t) noFill_tuple_mul F.fills_int_mul F.slot_int_rmul repeat_tuple F.slot_int_index.lookup
      (call_meets F.slot_int_rmul (typeIs_int s k t) F.entry_int_rmul (F.args_int_rmul_2 _ _) (int_rmul_tuple k t l its.toArray n dd sl)
        ⟨ho, rfl, ⟨_, ho, rfl⟩, call_meets F.slot_tuple_mul ⟨_, ho, rfl⟩ F.entry_tuple_mul (F.args_tuple_mul_2 _ _) (tuple_mulS l its.toArray n dd sl k t c0 c1) ⟨ho, ⟨.ref l, H, I, rfl, q' hsame⟩⟩⟩)
  have c1' : (its.toArray.isEmpty || k == 1) = false := by simpa using c1
  by_cases c2 : (decide (k ≤ 0) || its.toArray.isEmpty) = true
  · have hk : k ≤ 0 := by
      cases its with
      | nil => exact absurd c1' (by simp)
      | cons a b => simpa using c2
    have he : (List.replicate k.toNat xs).flatten = [] := by
      have : k.toNat = 0 := by omega
      rw [this]; rfl
    refine wpAny_binaryOp_repeat_ref (T := "tuple") (U := "int") (by decide) ⟨_, ho, rfl⟩ (fun s' => typeIs_int s' k t) noFill_tuple_mul F.fills_int_mul F.slot_int_rmul repeat_tuple F.slot_int_index.lookup
      (call_meets F.slot_int_rmul (typeIs_int s k t) F.entry_int_rmul (F.args_int_rmul_2 _ _) (int_rmul_tuple k t l its.toArray n dd sl)
        ⟨ho, rfl, ⟨_, ho, rfl⟩, call_meets F.slot_tuple_mul ⟨_, ho, rfl⟩ F.entry_tuple_mul (F.args_tuple_mul_2 _ _) (tuple_mul0 l its.toArray n dd sl k t c0 c1' c2) ⟨ho, ?_⟩⟩)
    rw [he] at q
    refine ⟨.ref s.heap.objs.size, _, I.laid (t' := s.toks) (o := .tup []) (fun b ob q => Heap.get?_push_of_some _ q) (Nat.le_refl _) ?_, rfl, q _ (I.hok.fresh (Nat.le_refl _))⟩
    exact ⟨by simp, _, .nil, IsTup.new _ _⟩
  have c2' : (decide (k ≤ 0) || its.toArray.isEmpty) = false := by simpa using c2
  have hk : 0 < k := by
    by_cases z : k ≤ 0
    · rw [decide_eq_true z] at c2'; cases c2'
    · omega
  have hm : ((its.toArray.size : Nat) : Int) * k ≤ 1000000 := by
    rw [hsz0]
    have ek : k = ((k.toNat : Nat) : Int) := by omega
    rw [ek, ← Int.natCast_mul, Nat.mul_comm]
    exact Int.ofNat_le.mpr hz
  have flen : (List.replicate k.toNat its).flatten.length ≤ sizeLine := by
    rw [PyProof.Rows.lm_len_rep_flat, hle, sizeLine_eq]
    omega
  have c4 : Builtin.Tuple.tupleTooMany (((its.toArray.size : Nat) : Int) * k) = false := by
    unfold Builtin.Tuple.tupleTooMany
    rw [sizeLine_eq]
    exact decide_eq_false (by omega)
  refine wpAny_binaryOp_repeat_ref (T := "tuple") (U := "int") (by decide) ⟨_, ho, rfl⟩ (fun s' => typeIs_int s' k t) noFill_tuple_mul F.fills_int_mul F.slot_int_rmul repeat_tuple F.slot_int_index.lookup
    (call_meets F.slot_int_rmul (typeIs_int s k t) F.entry_int_rmul (F.args_int_rmul_2 _ _) (int_rmul_tuple k t l its.toArray n dd sl)
      ⟨ho, rfl, ⟨_, ho, rfl⟩, call_meets F.slot_tuple_mul ⟨_, ho, rfl⟩ F.entry_tuple_mul (F.args_tuple_mul_2 _ _) (tuple_mulW l its.toArray n dd sl k t c0 c1' c2' (by omega) c4 (by rw [size_rep, List.size_toArray]; exact flen)) ⟨ho, ?_⟩⟩)
  rw [size_rep]
  refine ⟨.ref s.heap.objs.size, _, I.laid (t' := s.toks) (o := .tup (List.replicate k.toNat xs).flatten) (fun b ob q => Heap.get?_push_of_some _ q) (Nat.le_refl _) ?_, rfl, q _ (I.hok.fresh (Nat.le_refl _))⟩
  exact ⟨by rw [PyProof.Rows.lm_len_rep_flat, sizeLine_eq]; omega, _, r.rep k.toNat, IsTup.new _ _⟩
theorem ex_repG : ∃ f : Nat → Int → Bool, ∀ n k, f n k = true ↔ (-1000000 ≤ k ∧ k ≤ 1000000 ∧ k.toNat * n ≤ 1000000) := ⟨fun n k => decide (-1000000 ≤ k ∧ k ≤ 1000000 ∧ k.toNat * n ≤ 1000000), fun i j => decide_eq_true_iff⟩
noncomputable def repG : Nat → Int → Bool := ex_repG.choose
theorem repG_iff {n : Nat} {k : Int} : repG n k = true ↔ (-1000000 ≤ k ∧ k ≤ 1000000 ∧ k.toNat * n ≤ 1000000) := ex_repG.choose_spec n k
noncomputable def fMulG : D → D → Store → Rs D := fun x y st => match x, y with
  | .int i, .int j => if mulFits i j = true then .ok (.int (i * j)) st else .no
  | .tup a, .int k => if repG a.length k = true then .ok (.tup (List.replicate k.toNat a).flatten) st else .no
  | _, _ => .no
theorem opS_mulG : OpS X (binaryOp .Mult) fMulG := by
  refine ⟨_, op_mulX.or op_repG, fun W σ ρ st H x y vx vy Q r rx ry o => ?_⟩
  cases x with
  | int i =>
    cases y with
    | int j =>
      simp only [fMulG] at o
      split at o
      · rename_i h
        simp only [RelD] at rx ry
        exact .inl ⟨i, j, rx, ry, h, o.here r (by simp [reD, RelD])⟩
      · exact o.elim
    | _ => exact o.elim
  | tup a =>
    cases y with
    | int k =>
      simp only [fMulG] at o
      split at o
      · rename_i h
        have rx0 := rx
        simp only [RelD] at rx ry
        obtain ⟨p, us, rfl, hs, rs⟩ := rx
        obtain ⟨h1, h2, h3⟩ := repG_iff.mp h
        have hl := rs.len
        refine .inr ⟨p, k, us, rfl, ry, SqT.of hs, h1, h2, by rw [hl]; exact h3, fun q hq => ?_, fun hsm => ?_⟩
        · refine o.free r hq ?_
          simp only [reD, RelD]
          refine ⟨q, _, rfl, upd_same, ?_⟩
          have rs' : RelDs X.K ρ st.length (upd H q (.tup (List.replicate k.toNat us).flatten)) a us := RelDs.mono (r.push_ext hq) r a rs
          exact RelDs.reps rs' _
        · refine o.here r ?_
          simp only [reD, RelD]
          have q2 := RelDs.reps rs k.toNat
          rw [hsm] at q2
          exact ⟨p, us, rfl, hs, q2⟩
      · exact o.elim
    | _ => exact o.elim
  | _ => exact o.elim
@[simp] theorem x_mulGI {i j : Int} {st : Store} : fMulG (.int i) (.int j) st = if mulFits i j = true then .ok (.int (i * j)) st else .no := rfl
theorem x_mulGT {a : List D} {k : Int} {st : Store} (h1 : -1000000 ≤ k) (h2 : k ≤ 1000000) (h3 : k.toNat * a.length ≤ 1000000) : fMulG (.tup a) (.int k) st = .ok (.tup (List.replicate k.toNat a).flatten) st := by
  show (if repG a.length k = true then _ else _) = _
  rw [if_pos (repG_iff.mpr ⟨h1, h2, h3⟩)]
end
end Fx

set_option Elab.async false
set_option linter.all false
set_option maxRecDepth 100000
set_option maxHeartbeats 4000000
namespace Fx
open PySem L2
variable {d : Nat}
/-! ### systems -/
def sysD (ps : List (Pm d)) : D := .tup [.int (d : Int), rD ps]
structure Sys (ps : List (Pm d)) : Prop where
  few : d ≤ 24
  rank : ps.length ≤ 12
theorem fIx0 {ps : List (Pm d)} {st : Store} : fIx (sysD ps) (.int 0) st = .ok (.int (d : Int)) st := by
  rw [sysD, x_ixT]; rfl
theorem fIx1 {ps : List (Pm d)} {st : Store} : fIx (sysD ps) (.int 1) st = .ok (rD ps) st := by
  rw [sysD, x_ixT, show atI [D.int (d : Int), rD ps] 1 = some (rD ps) from atI_nat (j := 1) rfl]
theorem fLen_rD {ps : List (Pm d)} {st : Store} : fLen [rD ps] st = .ok (.int (ps.length : Int)) st := by simp [rD]
@[simp] theorem lf_sysD {ps : List (Pm d)} : lf (sysD ps) = true := by simp [sysD]
theorem fl_sysD {ps : List (Pm d)} : Fl 3 (sysD ps) := Fl.tup fun x hx => by
  simp only [List.mem_cons, List.not_mem_nil, or_false] at hx
  rcases hx with rfl | rfl
  · exact Fl.int
  · exact fl_rD _
theorem ne_tp {p : Pm d} {st : Store} : fNe (tp p) (tp p) st = .ok (.bl false) st := fNe_self (fl_tp p)
theorem ne_sysD {ps : List (Pm d)} {st : Store} : fNe (sysD ps) (sysD ps) st = .ok (.bl false) st := fNe_self fl_sysD
/-! ### steps with a post condition -/
theorem RTs_post {a b : SS} {τ : En} {st S : Store} {v : D} (Φ : En → Store → Prop) (h : ∃ τ1 st1, a τ st = .nx τ1 st1 ∧ Φ τ1 st1) (k : ∀ τ1 st1, Φ τ1 st1 → b τ1 st1 = .rt v S) : sSeq a b τ st = .rt v S := by
  obtain ⟨τ1, st1, e, hΦ⟩ := h
  rw [x_sSeq, e, Rt.seq_nx]
  exact k _ _ hΦ
theorem NX_post {a b : SS} {τ : En} {st : Store} {Φ : En → Store → Prop} (Ψ : En → Store → Prop) (h : ∃ τ1 st1, a τ st = .nx τ1 st1 ∧ Ψ τ1 st1) (k : ∀ τ1 st1, Ψ τ1 st1 → ∃ τ2 st2, b τ1 st1 = .nx τ2 st2 ∧ Φ τ2 st2) : ∃ τ2 st2, sSeq a b τ st = .nx τ2 st2 ∧ Φ τ2 st2 := by
  obtain ⟨τ1, st1, e, hΨ⟩ := h
  rw [x_sSeq, e, Rt.seq_nx]
  exact k _ _ hΨ
theorem NX_if {t : SB} {a b : SS} {τ : En} {st st1 : Store} {Φ : En → Store → Prop} (h : t τ st = .ok true st1) (k : ∃ τ2 st2, a τ st1 = .nx τ2 st2 ∧ Φ τ2 st2) : ∃ τ2 st2, sIf t a b τ st = .nx τ2 st2 ∧ Φ τ2 st2 := by
  obtain ⟨τ2, st2, e, hΦ⟩ := k
  exact ⟨τ2, st2, by rw [x_sIf, h]; exact e, hΦ⟩
/-- the turn x -> x + 1 mod d -/
def shift (d : Nat) (hd : 0 < d) : Pm d where
  f := fun x => if x < d then (x + 1) % d else x
  b := fun x => if x < d then (x + (d - 1)) % d else x
  fb := fun x => by
    by_cases h : x < d
    · have h2 : (x + (d - 1)) % d < d := Nat.mod_lt _ hd
      simp only [h, h2, if_true]
      rw [Nat.mod_add_mod, show x + (d - 1) + 1 = x + d by omega, Nat.add_mod_right, Nat.mod_eq_of_lt h]
    · simp only [h, if_false]
  bf := fun x => by
    by_cases h : x < d
    · have h2 : (x + 1) % d < d := Nat.mod_lt _ hd
      simp only [h, h2, if_true]
      rw [Nat.mod_add_mod, show x + 1 + (d - 1) = x + d by omega, Nat.add_mod_right, Nat.mod_eq_of_lt h]
    · simp only [h, if_false]
  out := fun x h => by
    have : ¬ x < d := by omega
    simp only [this, if_false]
theorem comp_f {p : Pm d} {m : SE} {g : SG} {vs : List Nat} {τ : En} {st : Store} (hd : d ≤ 1000) (h : ∀ x, x < d → ∃ τ1, g (nD x) (wipeE τ vs) = some τ1 ∧ m τ1 st = .ok (nD (p.f x)) st) : compS g mYes m vs ((List.range d).map nD) τ st [] = .ok (p.list.map nD) st := by
  rw [compS_mapL (h := nD) (f := fun x => nD (p.f x))]
  · simp [Pm.list, Function.comp_def]
  · intro x hx
    rw [List.mem_range] at hx
    obtain ⟨τ1, e1, e2⟩ := h x hx
    exact ⟨τ1, e1, rfl, e2⟩
  · simpa using small hd
/-! ### judging permutations and systems -/
theorem permL_ints : ∀ {n : Nat} {seen : List Int} {xs : List D}, permL n seen xs = true → ∃ ns : List Int, xs = ns.map D.int ∧ (∀ i ∈ ns, 0 ≤ i ∧ i < n ∧ i ∉ seen) ∧ ns.Nodup
  | n, seen, [], _ => ⟨[], rfl, fun _ h => (by cases h), .nil⟩
  | n, seen, x :: xs, h => by
    cases x with
    | int i =>
      rw [permL] at h
      split at h
      · cases h
      · rename_i hc
        obtain ⟨ns, rfl, h1, h2⟩ := permL_ints h
        refine ⟨i :: ns, rfl, fun j hj => ?_, List.nodup_cons.mpr ⟨fun z => (h1 i z).2.2 (by simp), h2⟩⟩
        rcases List.mem_cons.mp hj with rfl | hj
        · refine ⟨by omega, by omega, fun z => hc (.inr (.inr z))⟩
        · obtain ⟨a, b, c⟩ := h1 j hj
          exact ⟨a, b, fun z => c (List.mem_append_left _ z)⟩
    | _ => simp [permL] at h
theorem permL_of : ∀ {n : Nat} {seen ns : List Int}, (∀ i ∈ ns, 0 ≤ i ∧ i < n ∧ i ∉ seen) → ns.Nodup → permL n seen (ns.map D.int) = true
  | n, seen, [], _, _ => rfl
  | n, seen, i :: ns, h, hn => by
    obtain ⟨h1, h2⟩ := List.nodup_cons.mp hn
    obtain ⟨a, b, c⟩ := h i List.mem_cons_self
    rw [List.map_cons, permL, if_neg (by rintro (z | z | z) <;> first | omega | exact c z)]
    refine permL_of (fun j hj => ?_) h2
    obtain ⟨a', b', c'⟩ := h j (List.mem_cons_of_mem _ hj)
    refine ⟨a', b', fun z => ?_⟩
    rcases List.mem_append.mp z with z | z
    · exact c' z
    · rw [List.mem_singleton] at z; subst z; exact h1 hj
theorem nodup_len : ∀ {l D : List Nat}, l.Nodup → (∀ x ∈ l, x ∈ D) → l.length ≤ D.length
  | [], _, _, _ => Nat.zero_le _
  | x :: l, D, h, hs => by
    obtain ⟨h1, h2⟩ := List.nodup_cons.mp h
    have hx := hs x List.mem_cons_self
    have := nodup_len (D := D.erase x) h2 fun y hy => (List.mem_erase_of_ne (fun e => h1 (by rw [← e]; exact hy))).mpr (hs y (List.mem_cons_of_mem _ hy))
    rw [List.length_erase_of_mem hx] at this
    have hp : 0 < D.length := List.length_pos_of_mem hx
    simp only [List.length_cons]; omega
theorem nodup_all {l D : List Nat} (h : l.Nodup) (hs : ∀ x ∈ l, x ∈ D) (hl : D.length ≤ l.length) : ∀ x ∈ D, x ∈ l := by
  intro x hx
  by_cases c : x ∈ l
  · exact c
  · have := nodup_len (D := D.erase x) h fun y hy => (List.mem_erase_of_ne (fun e => c (by rw [← e]; exact hy))).mpr (hs y hy)
    rw [List.length_erase_of_mem hx] at this
    have hp : 0 < D.length := List.length_pos_of_mem hx
    omega
theorem nodup_perm {l D : List Nat} (h : l.Nodup) (hD : D.Nodup) (hs : ∀ x ∈ l, x ∈ D) (hl : D.length ≤ l.length) : l.Perm D :=
  (List.perm_ext_iff_of_nodup h hD).2 fun x => ⟨hs x, nodup_all h hs hl x⟩
theorem isP_inv {x : D} (h : isP x = true) : ∃ (d : Nat) (p : Pm d), x = tp p ∧ lenD x = d := by
  obtain ⟨ys, rfl⟩ := isP_tup h
  have h' : permL ys.length [] ys = true := h
  obtain ⟨ns, rfl, h1, h2⟩ := permL_ints h'
  rw [List.length_map] at h1
  have hl : ∃ l : List Nat, ns = l.map fun (k : Nat) => (k : Int) := ⟨ns.map Int.toNat, by
    rw [List.map_map]
    refine (List.map_id ns).symm.trans (List.map_congr_left fun i hi => ?_)
    have := (h1 i hi).1
    simp only [id_eq, Function.comp_apply]; omega⟩
  obtain ⟨l, rfl⟩ := hl
  rw [List.length_map] at h1
  have hnd : l.Nodup := List.Pairwise.of_map (fun (k : Nat) => (k : Int)) (fun a b hne e => hne (by rw [e])) h2
  have hp : l.Perm (List.range l.length) := by
    refine nodup_perm hnd List.nodup_range (fun x hx => ?_) (by simp)
    have := (h1 (x : Int) (List.mem_map.mpr ⟨x, hx, rfl⟩)).2.1
    rw [List.mem_range]; omega
  refine ⟨l.length, Pm.ofList l hp, ?_, by simp [lenD]⟩
  rw [tp, Pm.ofList_list, lD, List.map_map]; rfl
def sysB (x : D) : Bool := match x with
  | .tup [.int n, .tup ps] => decide (0 ≤ n ∧ n ≤ 24) && (decide (ps.length ≤ 12) && ps.all fun p => isP p && decide ((lenD p : Int) = n))
  | _ => false
theorem sysB_inv {x : D} (h : sysB x = true) : ∃ (d : Nat) (ps : List (Pm d)), x = sysD ps ∧ Sys ps := by
  unfold sysB at h
  split at h
  · rename_i n ps
    simp only [Bool.and_eq_true, decide_eq_true_eq, List.all_eq_true] at h
    obtain ⟨⟨h0, h1⟩, h2, h3⟩ := h
    obtain ⟨d, rfl⟩ : ∃ d : Nat, n = (d : Int) := ⟨n.toNat, by omega⟩
    have key : ∀ l : List D, (∀ p ∈ l, isP p = true ∧ (lenD p : Int) = (d : Int)) → ∃ qs : List (Pm d), l = qs.map tp := by
      intro l
      induction l with
      | nil => exact fun _ => ⟨[], rfl⟩
      | cons p l ih =>
        intro hl
        obtain ⟨qs, rfl⟩ := ih fun q hq => hl q (List.mem_cons_of_mem _ hq)
        obtain ⟨a, b⟩ := hl p List.mem_cons_self
        obtain ⟨e, q, rfl, hq⟩ := isP_inv a
        rw [hq] at b
        have : e = d := by omega
        subst this
        exact ⟨q :: qs, rfl⟩
    obtain ⟨qs, rfl⟩ := key ps h3
    exact ⟨d, qs, rfl, by omega, by simpa using h2⟩
  · cases h
theorem sysB_sysD {ps : List (Pm d)} (h : Sys ps) : sysB (sysD ps) = true := by
  have h1 := h.few
  have h2 := h.rank
  simp only [sysD, rD, sysB, Bool.and_eq_true, decide_eq_true_eq, List.all_eq_true, List.length_map]
  refine ⟨by omega, h2, fun x hx => ?_⟩
  obtain ⟨p, _, rfl⟩ := List.mem_map.mp hx
  exact ⟨isP_tp p, by rw [lenD_tp]⟩
end Fx

set_option Elab.async false
set_option linter.all false
set_option maxRecDepth 100000
set_option maxHeartbeats 4000000
namespace Fx
open PySem L2
variable {d : Nat}
/-! ### two places of a store -/
def two (st : Store) (L m : Nat) (X Y : O) : Store := (st.set L X).set m Y
section
variable {st : Store} {L m : Nat} {X Y X' Y' : O}
theorem two_L (h : L ≠ m) (hl : L < st.length) : (two st L m X Y)[L]? = some X := by
  rw [two, List.getElem?_set_ne (Ne.symm h), List.getElem?_set_self hl]
theorem two_m (hm : m < st.length) : (two st L m X Y)[m]? = some Y := by
  rw [two, List.getElem?_set_self (by simpa using hm)]
theorem two_setL (h : L ≠ m) : (two st L m X Y).set L X' = two st L m X' Y := by
  rw [two, List.set_comm _ _ (Ne.symm h), List.set_set]; rfl
theorem two_setm : (two st L m X Y).set m Y' = two st L m X Y' := by rw [two, List.set_set]; rfl
end
/-! ### the walk over the sheets, in plain Lean -/
def vis (x : Nat) (σ : List Nat × List Nat) (p : Pm d) : List Nat × List Nat := if p.f x ∈ σ.1 then σ else (σ.1 ++ [p.f x], σ.2 ++ [p.f x])
def bfs (ps : List (Pm d)) : Nat → Nat → List Nat × List Nat → List Nat × List Nat
  | 0, _, σ => σ
  | n + 1, k, σ => match σ.2[k]? with
    | none => σ
    | some x => bfs ps n (k + 1) (ps.foldl (vis x) σ)
def out1 (ps : List (Pm d)) (t : List Nat × List (List Nat)) (x : Nat) : List Nat × List (List Nat) :=
  if x ∈ t.1 then t else ((bfs ps d 0 (t.1 ++ [x], [x])).1, t.2 ++ [(bfs ps d 0 (t.1 ++ [x], [x])).2])
def parts (ps : List (Pm d)) : List (List Nat) := ((List.range d).foldl (out1 ps) ([], [])).2
structure Inv2 (d : Nat) (σ : List Nat × List Nat) : Prop where
  nd : σ.1.Nodup
  lt : ∀ x ∈ σ.1, x < d
  nd2 : σ.2.Nodup
  sub : ∀ x ∈ σ.2, x ∈ σ.1
theorem Inv2.len {σ : List Nat × List Nat} (h : Inv2 d σ) : σ.1.length ≤ d := by
  have := nodup_len (D := List.range d) h.nd fun x hx => List.mem_range.mpr (h.lt x hx)
  simpa using this
theorem Inv2.len2 {σ : List Nat × List Nat} (h : Inv2 d σ) : σ.2.length ≤ d := by
  have := nodup_len (D := List.range d) h.nd2 fun x hx => List.mem_range.mpr (h.lt x (h.sub x hx))
  simpa using this
theorem nodup_snoc {l : List Nat} {y : Nat} (h : l.Nodup) (hy : y ∉ l) : (l ++ [y]).Nodup :=
  List.nodup_append.mpr ⟨h, by simp, fun a ha b hb => by rw [List.mem_singleton] at hb; subst hb; exact fun e => hy (e ▸ ha)⟩
theorem Inv2.vis {σ : List Nat × List Nat} (h : Inv2 d σ) {x : Nat} (hx : x < d) (p : Pm d) : Inv2 d (vis x σ p) := by
  unfold Fx.vis
  split
  · exact h
  · rename_i hy
    refine ⟨nodup_snoc h.nd hy, fun z hz => ?_, nodup_snoc h.nd2 fun z => hy (h.sub _ z), fun z hz => ?_⟩
    · rcases List.mem_append.mp hz with hz | hz
      · exact h.lt z hz
      · rw [List.mem_singleton] at hz; subst hz; exact p.lt hx
    · rcases List.mem_append.mp hz with hz | hz
      · exact List.mem_append_left _ (h.sub z hz)
      · exact List.mem_append_right _ hz
theorem Inv2.fold {x : Nat} (hx : x < d) : ∀ (qs : List (Pm d)) {σ : List Nat × List Nat}, Inv2 d σ → Inv2 d (qs.foldl (Fx.vis x) σ)
  | [], _, h => h
  | p :: qs, _, h => Inv2.fold hx qs (h.vis hx p)
theorem vis_get {x k y : Nat} {p : Pm d} {σ : List Nat × List Nat} (h : σ.2[k]? = some y) : (vis x σ p).2[k]? = some y := by
  unfold vis
  split
  · exact h
  · rw [List.getElem?_append_left (List.getElem?_eq_some_iff.mp h).1]; exact h
theorem fold_get {x k y : Nat} : ∀ (qs : List (Pm d)) {σ : List Nat × List Nat}, σ.2[k]? = some y → (qs.foldl (vis x) σ).2[k]? = some y
  | [], _, h => h
  | p :: qs, _, h => fold_get qs (vis_get h)
theorem Inv2.bfs {ps : List (Pm d)} : ∀ (n k : Nat) {σ : List Nat × List Nat}, Inv2 d σ → Inv2 d (bfs ps n k σ)
  | 0, _, _, h => h
  | n + 1, k, σ, h => by
    rw [Fx.bfs]
    split
    · exact h
    · rename_i x hx
      exact Inv2.bfs n (k + 1) (h.fold (h.lt x (h.sub x (List.mem_of_getElem? hx))) ps)
/-- a part as it is told -/
def partD (l : List Nat) : D := .tup ((sortI (l.map fun (k : Nat) => (k : Int))).map D.int)
@[simp] theorem lf_partD {l : List Nat} : lf (partD l) = true := by simp [partD, List.all_map]
theorem x_sortedLoc {st : Store} {m : Nat} {l : List Nat} (h : st[m]? = some (.lst (l.map nD))) : fSorted [.loc m] st = .ok ((sortI (l.map fun (k : Nat) => (k : Int))).map D.int) st := by
  have e : l.map nD = (l.map fun (k : Nat) => (k : Int)).map D.int := by rw [List.map_map]; rfl
  rw [e] at h
  unfold fSorted onInts
  simp only [Fx.listOf, h, intsOf_map]
def seenO (d : Nat) (seen : List Nat) : O := .lst ((List.range d).map fun z => D.bl (decide (z ∈ seen)))
def seenK (seen : List Nat) : O := .dk (kvI (seen.map fun (k : Nat) => (k : Int)))
theorem seenO_get {st : Store} {L y : Nat} {seen : List Nat} (h : st[L]? = some (seenO d seen)) (hy : y < d) : fIx (.loc L) (nD y) st = .ok (.bl (decide (y ∈ seen))) st := by
  rw [nD, x_ixLoc h, atI_nat (by rw [List.getElem?_map, List.getElem?_range hy]; rfl)]
theorem seenO_set {st : Store} {L y : Nat} {seen : List Nat} (h : st[L]? = some (seenO d seen)) (hy : y < d) : fSetL (.loc L) (nD y) (.bl true) st = some (st.set L (seenO d (seen ++ [y]))) := by
  rw [nD, x_setLoc h (by simpa using hy)]
  congr 2
  unfold seenO
  congr 1
  refine List.ext_getElem (by simp) fun n h1 h2 => ?_
  have hn : n < d := by simpa using h2
  rw [List.getElem_set]
  by_cases e : y = n
  · subst e; simp
  · rw [if_neg e]
    have : ¬ n = y := fun z => e z.symm
    simp [this]
theorem mem_cast {y : Nat} {l : List Nat} : ((y : Int) ∈ l.map fun (k : Nat) => (k : Int)) = (y ∈ l) := by
  refine propext ⟨fun h => ?_, fun h => List.mem_map.mpr ⟨y, h, rfl⟩⟩
  obtain ⟨a, ha, e⟩ := List.mem_map.mp h
  have : a = y := by omega
  rw [← this]; exact ha
theorem seenK_in {st : Store} {L y : Nat} {seen : List Nat} (h : st[L]? = some (seenK seen)) : fDIn true (nD y) (.loc L) st = .ok (.bl (decide (y ∈ seen))) st := by
  rw [nD, fDIn_dk h]
  congr 3
  rw [mem_cast]
theorem fDIn_not {x y : D} {st st' : Store} {b : Bool} (h : fDIn true x y st = .ok (.bl b) st') : fDIn false x y st = .ok (.bl (!b)) st' := by
  unfold fDIn at h ⊢
  revert h
  rcases dGet y x st with _ | (_ | _)
  · intro h; cases h
  · intro h; cases h; rfl
  · intro h; cases h; rfl
theorem seenK_set {st : Store} {L y : Nat} {seen : List Nat} (h : st[L]? = some (seenK seen)) (hy : y ∉ seen) (hl : seen.length ≤ 900) : fSetD (.loc L) (nD y) (.bl true) st = some (st.set L (seenK (seen ++ [y]))) := by
  rw [nD, fSetD_dk h (by rw [mem_cast]; exact hy) (small1000 (by simp; omega))]
  simp [seenK]
end Fx

set_option Elab.async false
set_option linter.all false
set_option maxRecDepth 100000
set_option maxHeartbeats 4000000
namespace Fx
open PySem L2
section
variable {X : Cx} {W : WX} {a e1 : Expr} {m : SE} {p p1 kp pos : Pos} {j : Nat}
noncomputable def fSortR : FB (List D) := onInts fun ns => ((sortI ns).reverse).map D.int
theorem ef_sortedRev (hm : X.mg "sorted" = none) (ha : EvE X W a m) (hg : Gl X "sorted" := by rfl)
    (na : starEach [a] X.env = (false, eval a X.env) :: starEach [] X.env := by rfl)
    (he : backTo pos (starEach [a] X.env) = (false, eval a X.env) :: backTo pos (starEach [] X.env) := by rfl) (hpl : (backTo pos (starEach [a] X.env)).any (·.1) = false := by rfl)
    (hall : (backToKw pos (keywordEach [⟨some "reverse", .Constant (.bool true) j p1, kp⟩] X.env)).all (·.1.isSome) = true := by rfl) (hnone : (backToKw pos (keywordEach [⟨some "reverse", .Constant (.bool true) j p1, kp⟩] X.env)).any (·.1.isNone) = false := by rfl) (hks : (backToKw pos (keywordEach [⟨some "reverse", .Constant (.bool true) j p1, kp⟩] X.env)).filterMap (·.1) = [Str.ofString "reverse"] := by rfl) :
    EvF X W (.Call (.Name "sorted" p) [a] [⟨some "reverse", .Constant (.bool true) j p1, kp⟩] pos) (mFn fSortR (mCons m mNil)) :=
  PE.imp (pe_callBK (cr_sortedRev (b := true)) hg hm PyProof.Rows.boot_sorted (ea_cons ha ea_nil na) (pk_cons pe_bl pk_nil) (by decide) (by decide) he hpl hall hnone hks) fun σ H Q ⟨ρ, τ, st, r0, en, o⟩ => by
    refine tM.bind (Ra := reL X.K) r0 en (show Out X.K (reN X.K) W σ ρ st.length H Q ((mCons m mNil τ st).bind fSortR) from o) fun ds st1 ρ1 H1 vs e1 r1 en1 rv o1 => ?_
    obtain ⟨d, bs, rfl, hx, e⟩ := onInts_ok (fun z => by rw [fSortR, z] at o1; exact o1)
    rw [fSortR, e] at o1
    obtain ⟨v, rfl, rd⟩ := rv.one
    obtain ⟨a, us, rfl, h, ru⟩ := listOf_rel r1 rd hx
    rw [ru.ints] at h
    refine ⟨a, bs, rfl, rfl, h, fun ns' q h1 h2 hp => ?_⟩
    have h2' : ns'.Pairwise (· ≥ ·) := h2
    have e' : ns' = (sortI bs).reverse := by
      have : ns'.reverse = sortI bs := sorted_uniq (((List.reverse_perm _).trans h1).trans (sortI_perm bs).symm) (by rw [List.pairwise_reverse]; exact h2') (sortI_sorted bs)
      rw [← this, List.reverse_reverse]
    subst e'
    exact Out.fresh r1 o1 hp RelDs.ints'
theorem x_sortR {ns : List Int} {st : Store} : fSortR [.lst (ns.map D.int)] st = .ok (((sortI ns).reverse).map D.int) st := by
  unfold fSortR onInts
  simp only [Fx.listOf, intsOf_map]
end
end Fx

set_option Elab.async false
set_option linter.all false
set_option maxRecDepth 100000
set_option maxHeartbeats 4000000
namespace Fx
open PySem L2
variable {d : Nat}
/-! ### the cycles of a permutation, in plain Lean -/
def ring (p : Pm d) : Nat → List Nat → Nat → List Nat
  | 0, _, _ => []
  | n + 1, seen, y => if y ∈ seen then [] else y :: ring p n (seen ++ [y]) (p.f y)
def cyc1 (p : Pm d) (t : List Nat × List (List Nat)) (x : Nat) : List Nat × List (List Nat) :=
  if x ∈ t.1 then t else (t.1 ++ ring p d t.1 x, t.2 ++ [ring p d t.1 x])
def cycs (p : Pm d) : List (List Nat) := ((List.range d).foldl (cyc1 p) ([], [])).2
/-- a list that p runs along -/
def Along (p : Pm d) : List Nat → Prop
  | a :: b :: r => p.f a = b ∧ Along p (b :: r)
  | _ => True
theorem ring_nil {p : Pm d} {n : Nat} {seen : List Nat} {y : Nat} (h : y ∈ seen) : ring p n seen y = [] := by
  cases n with
  | zero => rfl
  | succ n => rw [ring, if_pos h]
theorem ring_cons {p : Pm d} {n : Nat} {seen : List Nat} {y : Nat} (h : y ∉ seen) : ring p (n + 1) seen y = y :: ring p n (seen ++ [y]) (p.f y) := by rw [ring, if_neg h]
theorem ring_lt {p : Pm d} : ∀ {n : Nat} {seen : List Nat} {y : Nat}, y < d → ∀ z ∈ ring p n seen y, z < d
  | 0, _, _, _, z, h => by cases h
  | n + 1, seen, y, hy, z, h => by
    rw [ring] at h
    split at h
    · cases h
    · rcases List.mem_cons.mp h with rfl | h
      · exact hy
      · exact ring_lt (p.lt hy) z h
theorem ring_new {p : Pm d} : ∀ {n : Nat} {seen : List Nat} {y : Nat}, ∀ z ∈ ring p n seen y, z ∉ seen
  | 0, _, _, z, h => by cases h
  | n + 1, seen, y, z, h => by
    rw [ring] at h
    split at h
    · cases h
    · rename_i hy
      rcases List.mem_cons.mp h with rfl | h
      · exact hy
      · exact fun hz => ring_new z h (List.mem_append_left _ hz)
theorem ring_nodup {p : Pm d} : ∀ {n : Nat} {seen : List Nat} {y : Nat}, (ring p n seen y).Nodup
  | 0, _, _ => .nil
  | n + 1, seen, y => by
    rw [ring]
    split
    · exact .nil
    · refine List.nodup_cons.mpr ⟨fun h => ring_new y h (by simp), ring_nodup⟩
theorem ring_along {p : Pm d} : ∀ {n : Nat} {seen : List Nat} {y : Nat}, Along p (ring p n seen y)
  | 0, _, _ => trivial
  | n + 1, seen, y => by
    rw [ring]
    split
    · trivial
    · have ih := ring_along (p := p) (n := n) (seen := seen ++ [y]) (y := p.f y)
      cases n with
      | zero => trivial
      | succ n =>
        by_cases c : p.f y ∈ seen ++ [y]
        · rw [ring_nil c]; trivial
        · rw [ring_cons c] at ih ⊢
          exact ⟨rfl, ih⟩
/-- where a ring ends -/
theorem ring_last {p : Pm d} : ∀ {n : Nat} {seen : List Nat} {y : Nat}, y < d → seen.Nodup → (∀ x ∈ seen, x < d) → d ≤ seen.length + n → y ∉ seen → ∃ z, (ring p n seen y).getLast? = some z ∧ p.f z ∈ seen ++ ring p n seen y
  | 0, seen, y, hy, hn, hl, hd, hs => by
    exact absurd (nodup_all (D := List.range d) hn (fun x hx => List.mem_range.mpr (hl x hx)) (by simp; omega) y (List.mem_range.mpr hy)) hs
  | n + 1, seen, y, hy, hn, hl, hd, hs => by
    rw [ring_cons hs]
    by_cases c : p.f y ∈ seen ++ [y]
    · rw [ring_nil c]
      exact ⟨y, rfl, c⟩
    · obtain ⟨z, h1, h2⟩ := ring_last (p := p) (n := n) (seen := seen ++ [y]) (y := p.f y) (p.lt hy) (nodup_snoc hn hs) (fun x hx => by
        rcases List.mem_append.mp hx with hx | hx
        · exact hl x hx
        · rw [List.mem_singleton] at hx; omega) (by simp; omega) c
      refine ⟨z, ?_, by simpa using h2⟩
      rw [List.getLast?_cons, h1]; rfl
/-- a set of sheets that p leads into itself -/
def Shut (p : Pm d) (seen : List Nat) : Prop := ∀ x ∈ seen, p.f x ∈ seen
theorem map_nodup {p : Pm d} {l : List Nat} (h : l.Nodup) : (l.map p.f).Nodup := List.Pairwise.map p.f (fun a b hne e => hne (p.inj e)) h
theorem Shut.back {p : Pm d} {seen : List Nat} (h : Shut p seen) (hn : seen.Nodup) {x : Nat} (hx : p.f x ∈ seen) : x ∈ seen := by
  have := nodup_all (map_nodup (p := p) hn) (fun y hy => by
    obtain ⟨z, hz, rfl⟩ := List.mem_map.mp hy; exact h z hz) (by simp) _ hx
  obtain ⟨z, hz, e⟩ := List.mem_map.mp this
  rw [← p.inj e]; exact hz
theorem along_prev {p : Pm d} : ∀ {a : Nat} {r : List Nat}, Along p (a :: r) → ∀ w ∈ r, ∃ v ∈ (a :: r).dropLast, p.f v = w
  | a, [], _, w, hw => by cases hw
  | a, b :: r, h, w, hw => by
    rw [List.dropLast_cons₂]
    rcases List.mem_cons.mp hw with rfl | hw
    · exact ⟨a, List.mem_cons_self, h.1⟩
    · obtain ⟨v, hv, e⟩ := along_prev h.2 w hw
      exact ⟨v, List.mem_cons_of_mem _ hv, e⟩
theorem along_next {p : Pm d} : ∀ {a : Nat} {r : List Nat}, Along p (a :: r) → ∀ v ∈ (a :: r).dropLast, p.f v ∈ r
  | a, [], _, v, hv => by cases hv
  | a, b :: r, h, v, hv => by
    rw [List.dropLast_cons₂] at hv
    rcases List.mem_cons.mp hv with rfl | hv
    · rw [h.1]; exact List.mem_cons_self
    · exact List.mem_cons_of_mem _ (along_next h.2 v hv)
/-- a cycle: p runs along it and from its end to its beginning -/
structure Cyc (p : Pm d) (c : List Nat) : Prop where
  al : Along p c
  ends : ∃ a r z, c = a :: r ∧ c.getLast? = some z ∧ p.f z = a
structure CInv (p : Pm d) (t : List Nat × List (List Nat)) : Prop where
  fl : t.2.flatten = t.1
  nd : t.1.Nodup
  lt : ∀ x ∈ t.1, x < d
  sh : Shut p t.1
  cy : ∀ c ∈ t.2, Cyc p c
theorem last_split {l : List Nat} {z : Nat} (h : l.getLast? = some z) : l = l.dropLast ++ [z] := by
  cases l with
  | nil => simp at h
  | cons a r =>
    have h1 : (a :: r).getLast (by simp) = z := by
      rw [List.getLast?_eq_some_getLast (by simp)] at h
      exact Option.some.inj h
    rw [← h1]
    exact (List.dropLast_concat_getLast (by simp)).symm
theorem CInv.step {p : Pm d} {t : List Nat × List (List Nat)} (h : CInv p t) {x : Nat} (hx : x < d) : CInv p (cyc1 p t x) := by
  rw [cyc1]
  split
  · exact h
  · rename_i hs
    have hd : d ≤ t.1.length + d := by omega
    obtain ⟨z, hz, hzm⟩ := ring_last (p := p) (n := d) hx h.nd h.lt hd hs
    obtain ⟨n, hdn⟩ : ∃ n, d = n + 1 := ⟨d - 1, by omega⟩
    obtain ⟨r, hr⟩ : ∃ r, ring p d t.1 x = x :: r := ⟨ring p n (t.1 ++ [x]) (p.f x), by
      have := ring_cons (p := p) (n := n) hs
      rw [← this]; congr 1⟩
    have hal := ring_along (p := p) (n := d) (seen := t.1) (y := x)
    have hnd := ring_nodup (p := p) (n := d) (seen := t.1) (y := x)
    have hnew := ring_new (p := p) (n := d) (seen := t.1) (y := x)
    have hlt := ring_lt (p := p) (n := d) (seen := t.1) hx
    rw [hr] at hz hzm hal hnd hnew hlt ⊢
    have hspl := last_split hz
    have hzr : z ∈ x :: r := by rw [hspl]; simp
    have hcl : p.f z = x := by
      rcases List.mem_append.mp hzm with hm | hm
      · exact absurd (h.sh.back h.nd hm) (hnew z hzr)
      · rcases List.mem_cons.mp hm with hm | hm
        · exact hm
        · obtain ⟨v, hv, e⟩ := along_prev hal _ hm
          have := p.inj e
          subst this
          rw [hspl] at hnd
          exact absurd rfl ((List.nodup_append.mp hnd).2.2 v hv v (by simp))
    refine ⟨by simp [h.fl], ?_, fun y hy => ?_, fun y hy => ?_, fun c hc => ?_⟩
    · exact List.nodup_append.mpr ⟨h.nd, hnd, fun a ha b hb e => hnew b hb (e ▸ ha)⟩
    · rcases List.mem_append.mp hy with hy | hy
      · exact h.lt y hy
      · exact hlt y hy
    · rcases List.mem_append.mp hy with hy | hy
      · exact List.mem_append_left _ (h.sh y hy)
      · refine List.mem_append_right _ ?_
        rw [hspl] at hy
        rcases List.mem_append.mp hy with hy | hy
        · exact List.mem_cons_of_mem _ (along_next hal y hy)
        · rw [List.mem_singleton] at hy
          rw [hy, hcl]; exact List.mem_cons_self
    · rcases List.mem_append.mp hc with hc | hc
      · exact h.cy c hc
      · rw [List.mem_singleton] at hc
        subst hc
        exact ⟨hal, x, r, z, rfl, hz, hcl⟩
theorem CInv.fold {p : Pm d} : ∀ (l : List Nat) {t : List Nat × List (List Nat)}, CInv p t → (∀ x ∈ l, x < d) → CInv p (l.foldl (cyc1 p) t) ∧ (∀ x ∈ l, x ∈ (l.foldl (cyc1 p) t).1) ∧ ∀ x ∈ t.1, x ∈ (l.foldl (cyc1 p) t).1
  | [], t, h, _ => ⟨h, by simp, fun _ hx => hx⟩
  | y :: l, t, h, hl => by
    have hy := hl y List.mem_cons_self
    obtain ⟨h1, h2, h3⟩ := CInv.fold l (h.step hy) fun x hx => hl x (List.mem_cons_of_mem _ hx)
    have hin : y ∈ (cyc1 p t y).1 := by
      rw [cyc1]
      split
      · assumption
      · rename_i hs
        obtain ⟨n, hdn⟩ : ∃ n, d = n + 1 := ⟨d - 1, by omega⟩
        refine List.mem_append_right _ ?_
        have e : ring p d t.1 y = ring p (n + 1) t.1 y := by congr 1
        rw [e, ring_cons hs]
        exact List.mem_cons_self
    have hmono : ∀ x ∈ t.1, x ∈ (cyc1 p t y).1 := fun x hx => by
      rw [cyc1]
      split
      · exact hx
      · exact List.mem_append_left _ hx
    refine ⟨h1, fun x hx => ?_, fun x hx => h3 x (hmono x hx)⟩
    rcases List.mem_cons.mp hx with rfl | hx
    · exact h3 _ hin
    · exact h2 x hx
theorem cycs_inv (p : Pm d) : CInv p ((List.range d).foldl (cyc1 p) ([], [])) := (CInv.fold (p := p) (t := ([], [])) (List.range d) ⟨rfl, .nil, by simp, fun x hx => by simp at hx, by simp⟩ fun x hx => List.mem_range.mp hx).1
theorem cycs_cy {p : Pm d} {c : List Nat} (h : c ∈ cycs p) : Cyc p c := (cycs_inv p).cy c h
theorem cycs_nd (p : Pm d) : (cycs p).flatten.Nodup := by
  have := (cycs_inv p).nd
  rw [← (cycs_inv p).fl] at this; exact this
theorem cycs_lt {p : Pm d} {x : Nat} (h : x ∈ (cycs p).flatten) : x < d := by
  have e := (cycs_inv p).fl
  rw [cycs, e] at h
  exact (cycs_inv p).lt x h
theorem cycs_all {p : Pm d} {x : Nat} (h : x < d) : x ∈ (cycs p).flatten := by
  have e := (cycs_inv p).fl
  rw [cycs, e]
  exact (CInv.fold (p := p) (t := ([], [])) (List.range d) ⟨rfl, .nil, by simp, fun x hx => by simp at hx, by simp⟩ fun x hx => List.mem_range.mp hx).2.1 x (List.mem_range.mpr h)
theorem cycs_len (p : Pm d) : (cycs p).flatten.length = d := by
  have h1 := nodup_len (D := List.range d) (cycs_nd p) fun x hx => List.mem_range.mpr (cycs_lt hx)
  have h2 := nodup_len (D := (cycs p).flatten) List.nodup_range fun x hx => cycs_all (p := p) (List.mem_range.mp hx)
  simp at h1 h2; simp; omega
/-! ### swaps -/
def swp (d a b : Nat) : Pm d := if h : a < d ∧ b < d then Pm.swap a b h.1 h.2 else Pm.one
theorem swp_f {a b : Nat} (ha : a < d) (hb : b < d) (x : Nat) : (swp d a b).f x = if x = a then b else if x = b then a else x := by
  rw [swp, dif_pos ⟨ha, hb⟩]; rfl
def toldS (d : Nat) : List Nat → List (Pm d)
  | [] => []
  | a :: r => r.map fun b => swp d a b
theorem prod_app (a b : List (Pm d)) : prod (a ++ b) = prod a * prod b := by
  rw [prod, List.foldl_append, foldl_mul]; rfl
theorem along_app {p : Pm d} {b : Nat} : ∀ {a : Nat} {r : List Nat}, Along p (a :: (r ++ [b])) → Along p (a :: r) ∧ ∃ z, (a :: r).getLast? = some z ∧ p.f z = b
  | a, [], h => ⟨trivial, a, rfl, h.1⟩
  | a, c :: r, h => by
    obtain ⟨h1, z, h2, h3⟩ := along_app (p := p) (b := b) (a := c) (r := r) h.2
    exact ⟨⟨h.1, h1⟩, z, by rw [List.getLast?_cons, h2]; rfl, h3⟩
theorem told_run {p : Pm d} {a : Nat} : ∀ (n : Nat) (r : List Nat), r.length = n → Along p (a :: r) → (a :: r).Nodup → (∀ x ∈ a :: r, x < d) → ∀ z, (a :: r).getLast? = some z →
    (∀ v ∈ (a :: r).dropLast, (prod (toldS d (a :: r))).f v = p.f v) ∧ (prod (toldS d (a :: r))).f z = a ∧ ∀ x, x ∉ a :: r → (prod (toldS d (a :: r))).f x = x
  | 0, r, hn, _, _, _, z, hz => by
    have : r = [] := List.length_eq_zero_iff.mp hn
    subst this
    simp at hz
    subst hz
    exact ⟨by simp, rfl, fun _ _ => rfl⟩
  | n + 1, r, hn, hal, hnd, hlt, z, hz => by
    obtain ⟨r', b, rfl⟩ : ∃ r' b, r = r' ++ [b] := ⟨r.dropLast, r.getLast (by intro e; subst e; simp at hn), (List.dropLast_concat_getLast _).symm⟩
    have hc : a :: (r' ++ [b]) = (a :: r') ++ [b] := rfl
    have hz' : z = b := by
      rw [hc, List.getLast?_append] at hz
      simpa using hz.symm
    subst hz'
    obtain ⟨hal', y, hy, hyb⟩ := along_app hal
    rw [hc] at hnd
    obtain ⟨hnd', _, hdis⟩ := List.nodup_append.mp hnd
    have hzn : z ∉ a :: r' := fun h => hdis z h z (by simp) rfl
    obtain ⟨i1, i2, i3⟩ := told_run (p := p) (a := a) n r' (by simpa using hn) hal' hnd' (fun x hx => hlt x (by rw [hc]; exact List.mem_append_left _ hx)) y hy
    have ha : a < d := hlt a List.mem_cons_self
    have hzd : z < d := hlt z (by rw [hc]; simp)
    have he : prod (toldS d (a :: (r' ++ [z]))) = prod (toldS d (a :: r')) * swp d a z := by
      simp only [toldS, List.map_append, prod_app]
      rfl
    have hspl := last_split hy
    rw [he]
    refine ⟨fun v hv => ?_, ?_, fun x hx => ?_⟩
    · rw [hc, List.dropLast_concat, hspl] at hv
      rw [Pm.mul_f, swp_f ha hzd]
      rcases List.mem_append.mp hv with hv | hv
      · rw [i1 v hv]
        have h1 : p.f v ∈ r' := along_next hal' v hv
        have h2 : p.f v ≠ a := fun e => (List.nodup_cons.mp hnd').1 (e ▸ h1)
        have h3 : p.f v ≠ z := fun e => hzn (e ▸ List.mem_cons_of_mem _ h1)
        rw [if_neg h2, if_neg h3]
      · rw [List.mem_singleton] at hv
        subst hv
        rw [i2, if_pos rfl, hyb]
    · rw [Pm.mul_f, i3 z hzn, swp_f ha hzd, if_neg (show ¬ z = a from fun e => hzn (e ▸ List.mem_cons_self)), if_pos rfl]
    · have h1 : x ∉ a :: r' := fun h => hx (by rw [hc]; exact List.mem_append_left _ h)
      rw [Pm.mul_f, i3 x h1, swp_f ha hzd, if_neg (show ¬ x = a from fun e => h1 (e ▸ List.mem_cons_self)), if_neg (show ¬ x = z from fun e => hx (by rw [hc]; simp [e]))]
theorem told_cyc {p : Pm d} {c : List Nat} (h : Cyc p c) (hn : c.Nodup) (hl : ∀ x ∈ c, x < d) (x : Nat) : (prod (toldS d c)).f x = if x ∈ c then p.f x else x := by
  obtain ⟨hal, a, r, z, rfl, hz, hza⟩ := h
  obtain ⟨i1, i2, i3⟩ := told_run (p := p) r.length r rfl hal hn hl z hz
  split
  · rename_i hx
    rw [last_split hz] at hx
    rcases List.mem_append.mp hx with hx | hx
    · exact i1 x hx
    · rw [List.mem_singleton] at hx
      subst hx
      rw [i2, hza]
  · rename_i hx
    exact i3 x hx
theorem told_all {p : Pm d} : ∀ (cs : List (List Nat)), (∀ c ∈ cs, Cyc p c) → cs.flatten.Nodup → (∀ x ∈ cs.flatten, x < d) → ∀ x, (prod (cs.flatMap (toldS d))).f x = if x ∈ cs.flatten then p.f x else x
  | [], _, _, _, x => by simp [prod]
  | c :: cs, hc, hn, hl, x => by
    rw [List.flatten_cons] at hn hl ⊢
    obtain ⟨n1, n2, n3⟩ := List.nodup_append.mp hn
    have hcy := hc c List.mem_cons_self
    have h1 := told_cyc hcy n1 (fun y hy => hl y (List.mem_append_left _ hy)) x
    have h2 := told_all cs (fun c' hc' => hc c' (List.mem_cons_of_mem _ hc')) n2 (fun y hy => hl y (List.mem_append_right _ hy))
    rw [List.flatMap_cons, prod_app, Pm.mul_f, h1]
    by_cases hx : x ∈ c
    · rw [if_pos hx, if_pos (List.mem_append_left _ hx), h2, if_neg]
      intro hm
      obtain ⟨hal, a, r, z, rfl, hz, hza⟩ := hcy
      have : p.f x ∈ a :: r := by
        have hx' := hx
        rw [last_split hz] at hx'
        rcases List.mem_append.mp hx' with hx' | hx'
        · exact List.mem_cons_of_mem _ (along_next hal x hx')
        · rw [List.mem_singleton] at hx'
          rw [hx', hza]; exact List.mem_cons_self
      exact n3 _ this _ hm rfl
    · rw [if_neg hx, h2]
      by_cases hy : x ∈ cs.flatten
      · rw [if_pos hy, if_pos (List.mem_append_right _ hy)]
      · rw [if_neg hy, if_neg (by rw [List.mem_append]; exact fun z => z.elim hx hy)]
theorem told_prod (p : Pm d) : prod ((cycs p).flatMap (toldS d)) = p := Pm.ext fun x => by
  rw [told_all (cycs p) (fun c hc => cycs_cy hc) (cycs_nd p) (fun x hx => cycs_lt hx) x]
  split
  · rfl
  · rename_i h
    exact (p.out x (by
      by_cases c : x < d
      · exact absurd (cycs_all c) h
      · omega)).symm
theorem told_len {cs : List (List Nat)} (h : ∀ c ∈ cs, c ≠ []) : (cs.flatMap (toldS d)).length + cs.length = cs.flatten.length := by
  induction cs with
  | nil => rfl
  | cons c cs ih =>
    have := ih fun c hc => h c (List.mem_cons_of_mem _ hc)
    have hc := h c List.mem_cons_self
    cases c with
    | nil => exact absurd rfl hc
    | cons a r =>
      simp only [List.flatMap_cons, List.flatten_cons, List.length_append, List.length_cons, toldS, List.length_map] at this ⊢
      omega
theorem told_count (p : Pm d) : ((cycs p).flatMap (toldS d)).length + (cycs p).length = d := by
  rw [told_len fun c hc => ?_, cycs_len]
  obtain ⟨_, a, r, z, rfl, _⟩ := cycs_cy hc
  simp
/-! ### the sign -/
def xr (h : Nat → Nat → Bool) (x : Nat) : List Nat → Bool
  | [] => false
  | y :: l => (h x y).xor (xr h x l)
def tt (h : Nat → Nat → Bool) : List Nat → Bool
  | [] => false
  | x :: l => (xr h x l).xor (tt h l)
theorem xr_perm {h : Nat → Nat → Bool} {x : Nat} {l l' : List Nat} (p : l.Perm l') : xr h x l = xr h x l' := by
  induction p with
  | nil => rfl
  | cons a _ ih => rw [xr, xr, ih]
  | swap a b l => simp only [xr]; rw [← Bool.xor_assoc, ← Bool.xor_assoc, Bool.xor_comm (h x b)]
  | trans _ _ i1 i2 => rw [i1, i2]
theorem tt_perm {h : Nat → Nat → Bool} (hs : ∀ a b, h a b = h b a) {l l' : List Nat} (p : l.Perm l') : tt h l = tt h l' := by
  induction p with
  | nil => rfl
  | cons a q ih => rw [tt, tt, ih, xr_perm q]
  | swap a b l =>
    simp only [tt, xr]
    rw [hs b a]
    cases h a b <;> cases xr h b l <;> cases xr h a l <;> cases tt h l <;> rfl
  | trans _ _ i1 i2 => rw [i1, i2]
theorem xr_xor {h1 h2 : Nat → Nat → Bool} {x : Nat} : ∀ (l : List Nat), xr (fun a b => (h1 a b).xor (h2 a b)) x l = (xr h1 x l).xor (xr h2 x l)
  | [] => rfl
  | y :: l => by
    simp only [xr, xr_xor l]
    cases h1 x y <;> cases h2 x y <;> cases xr h1 x l <;> cases xr h2 x l <;> rfl
theorem tt_xor {h1 h2 : Nat → Nat → Bool} : ∀ (l : List Nat), tt (fun a b => (h1 a b).xor (h2 a b)) l = (tt h1 l).xor (tt h2 l)
  | [] => rfl
  | y :: l => by
    simp only [tt, tt_xor l, xr_xor l]
    cases xr h1 y l <;> cases xr h2 y l <;> cases tt h1 l <;> cases tt h2 l <;> rfl
theorem xr_map {h : Nat → Nat → Bool} {f : Nat → Nat} {x : Nat} : ∀ (l : List Nat), xr h (f x) (l.map f) = xr (fun a b => h (f a) (f b)) x l
  | [] => rfl
  | y :: l => by rw [List.map_cons, xr, xr, xr_map l]
theorem tt_map {h : Nat → Nat → Bool} {f : Nat → Nat} : ∀ (l : List Nat), tt h (l.map f) = tt (fun a b => h (f a) (f b)) l
  | [] => rfl
  | y :: l => by rw [List.map_cons, tt, tt, tt_map l, xr_map]
def inv2 (f : Nat → Nat) (a b : Nat) : Bool := (decide (a < b)).xor (decide (f a < f b))
theorem inv2_sym {f : Nat → Nat} (hf : ∀ x y, f x = f y → x = y) (a b : Nat) : inv2 f a b = inv2 f b a := by
  unfold inv2
  by_cases e : a = b
  · subst e; rfl
  · have e' : f a ≠ f b := fun z => e (hf _ _ z)
    by_cases h1 : a < b <;> by_cases h2 : f a < f b
    · simp [h1, h2, show ¬ b < a by omega, show ¬ f b < f a by omega]
    · simp [h1, h2, show ¬ b < a by omega, show f b < f a by omega]
    · simp [h1, h2, show b < a by omega, show ¬ f b < f a by omega]
    · simp [h1, h2, show b < a by omega, show f b < f a by omega]
def odd (p : Pm d) : Bool := tt (inv2 p.f) (List.range d)
theorem range_perm (p : Pm d) : ((List.range d).map p.f).Perm (List.range d) := nodup_perm (map_nodup List.nodup_range) List.nodup_range (fun x hx => by
  obtain ⟨y, hy, rfl⟩ := List.mem_map.mp hx
  exact List.mem_range.mpr (p.lt (List.mem_range.mp hy))) (by simp)
theorem odd_mul (p q : Pm d) : odd (p * q) = (odd p).xor (odd q) := by
  have e : inv2 (p * q).f = fun a b => (inv2 p.f a b).xor (inv2 q.f (p.f a) (p.f b)) := by
    funext a b
    simp only [inv2, Pm.mul_f]
    cases decide (a < b) <;> cases decide (p.f a < p.f b) <;> cases decide (q.f (p.f a) < q.f (p.f b)) <;> rfl
  have hm : tt (fun a b => inv2 q.f (p.f a) (p.f b)) (List.range d) = odd q := by
    rw [← tt_map (h := inv2 q.f) (f := p.f), tt_perm (inv2_sym fun x y => q.inj) (range_perm p)]; rfl
  rw [odd, e, tt_xor, hm]
  rfl
theorem xr_false {h : Nat → Nat → Bool} {x : Nat} : ∀ {l : List Nat}, (∀ y ∈ l, h x y = false) → xr h x l = false
  | [], _ => rfl
  | y :: l, hh => by rw [xr, hh y List.mem_cons_self, xr_false fun z hz => hh z (List.mem_cons_of_mem _ hz)]; rfl
theorem tt_false {h : Nat → Nat → Bool} : ∀ {l : List Nat}, (∀ x ∈ l, ∀ y ∈ l, h x y = false) → tt h l = false
  | [], _ => rfl
  | x :: l, hh => by
    rw [tt, xr_false fun y hy => hh x List.mem_cons_self y (List.mem_cons_of_mem _ hy), tt_false fun a ha b hb => hh a (List.mem_cons_of_mem _ ha) b (List.mem_cons_of_mem _ hb)]; rfl
theorem xr_congr {h : Nat → Nat → Bool} {a b : Nat} : ∀ {l : List Nat}, (∀ y ∈ l, h a y = h b y) → xr h a l = xr h b l
  | [], _ => rfl
  | y :: l, hh => by rw [xr, xr, hh y List.mem_cons_self, xr_congr fun z hz => hh z (List.mem_cons_of_mem _ hz)]
theorem odd_swp {a b : Nat} (ha : a < d) (hb : b < d) (hab : a ≠ b) : odd (swp d a b) = true := by
  have f := swp_f (d := d) ha hb
  have hinj : ∀ x y, (swp d a b).f x = (swp d a b).f y → x = y := fun x y => (swp d a b).inj
  obtain ⟨r, hr⟩ : ∃ r, r = ((List.range d).erase a).erase b := ⟨_, rfl⟩
  have hp : (List.range d).Perm (a :: b :: r) := by
    have h1 : (List.range d).Perm (a :: (List.range d).erase a) := List.perm_cons_erase (List.mem_range.mpr ha)
    have h2 : ((List.range d).erase a).Perm (b :: r) := by
      rw [hr]
      exact List.perm_cons_erase ((List.mem_erase_of_ne (Ne.symm hab)).mpr (List.mem_range.mpr hb))
    exact h1.trans (h2.cons a)
  have hnd : (a :: b :: r).Nodup := hp.nodup_iff.mp List.nodup_range
  have hne : ∀ z ∈ r, z ≠ a ∧ z ≠ b := fun z hz => by
    obtain ⟨n1, n2⟩ := List.nodup_cons.mp hnd
    exact ⟨fun e => n1 (List.mem_cons_of_mem _ (e ▸ hz)), fun e => (List.nodup_cons.mp n2).1 (e ▸ hz)⟩
  have fa : (swp d a b).f a = b := by rw [f, if_pos rfl]
  have fb : (swp d a b).f b = a := by rw [f, if_neg (Ne.symm hab), if_pos rfl]
  have fz : ∀ z ∈ r, (swp d a b).f z = z := fun z hz => by rw [f, if_neg (hne z hz).1, if_neg (hne z hz).2]
  rw [odd, tt_perm (inv2_sym hinj) hp, tt, tt, xr]
  have c1 : inv2 (swp d a b).f a b = true := by
    unfold inv2
    rw [fa, fb]
    by_cases h : a < b
    · simp [h, show ¬ b < a by omega]
    · simp [h, show b < a by omega]
  have c2 : xr (inv2 (swp d a b).f) a r = xr (inv2 (swp d a b).f) b r := xr_congr fun z hz => by
    unfold inv2
    rw [fa, fb, fz z hz, Bool.xor_comm]
  have c3 : tt (inv2 (swp d a b).f) r = false := tt_false fun x hx y hy => by
    unfold inv2
    rw [fz x hx, fz y hy]; simp
  rw [c1, c2, c3]
  cases xr (inv2 (swp d a b).f) b r <;> rfl
theorem odd_one : odd (Pm.one : Pm d) = false := tt_false fun x _ y _ => by show (decide (x < y)).xor (decide (x < y)) = false; simp
theorem odd_row : ∀ (l : List (Pm d)), (∀ s ∈ l, odd s = true) → odd (prod l) = decide (l.length % 2 = 1)
  | [], _ => odd_one
  | s :: l, h => by
    rw [prod_cons, odd_mul, h s List.mem_cons_self, odd_row l fun q hq => h q (List.mem_cons_of_mem _ hq), List.length_cons]
    by_cases c : l.length % 2 = 1
    · rw [decide_eq_true c, decide_eq_false (by omega)]; rfl
    · rw [decide_eq_false c, decide_eq_true (by omega)]; rfl
theorem nodup_elem {cs : List (List Nat)} (h : cs.flatten.Nodup) {c : List Nat} (hc : c ∈ cs) : c.Nodup := by
  induction cs with
  | nil => cases hc
  | cons e cs ih =>
    rw [List.flatten_cons] at h
    obtain ⟨h1, h2, _⟩ := List.nodup_append.mp h
    rcases List.mem_cons.mp hc with rfl | hc
    · exact h1
    · exact ih h2 hc
theorem odd_cycs (p : Pm d) : odd p = decide ((d - (cycs p).length) % 2 = 1) := by
  have h := odd_row ((cycs p).flatMap (toldS d)) fun s hs => by
    obtain ⟨c, hc, hs⟩ := List.mem_flatMap.mp hs
    obtain ⟨_, a, r, z, rfl, _⟩ := cycs_cy hc
    obtain ⟨b, hb, rfl⟩ := List.mem_map.mp hs
    have hm : ∀ x ∈ a :: r, x ∈ (cycs p).flatten := fun x hx => List.mem_flatten.mpr ⟨_, hc, hx⟩
    have hnd : (a :: r).Nodup := by
      have := cycs_nd p
      exact (nodup_elem this hc)
    exact odd_swp (cycs_lt (hm a List.mem_cons_self)) (cycs_lt (hm b (List.mem_cons_of_mem _ hb))) fun e => (List.nodup_cons.mp hnd).1 (e ▸ hb)
  rw [told_prod] at h
  rw [h]
  have := told_count p
  have e : ((cycs p).flatMap (toldS d)).length = d - (cycs p).length := by omega
  rw [e]
end Fx

set_option Elab.async false
set_option linter.all false
set_option maxRecDepth 100000
set_option maxHeartbeats 4000000
namespace Fx
open PySem L2
variable {d : Nat}
theorem sWhile_lt {t : SB} {b : SS} {P : Nat → En → Store → Prop} {R : En → Store → Prop} (step : ∀ n τ st, P n τ st → (∃ st1, t τ st = .ok false st1 ∧ R τ st1) ∨ ∃ st1 τ2 st2 m, t τ st = .ok true st1 ∧ (b τ st1 = .nx τ2 st2 ∨ b τ st1 = .ct τ2 st2) ∧ m < n ∧ P m τ2 st2) (n : Nat) :
    ∀ τ st, P n τ st → ∃ τ' st', sWhile t b τ st = .nx τ' st' ∧ R τ' st' := by
  induction n using Nat.strongRecOn with
  | _ n ih =>
    intro τ st h
    rcases step n τ st h with ⟨st1, e, r⟩ | ⟨st1, τ2, st2, m, e1, e2, hm, h2⟩
    · exact ⟨τ, st1, by rw [sWhile_eq, e]; rfl, r⟩
    · obtain ⟨τ', st', e3, r⟩ := ih m hm τ2 st2 h2
      refine ⟨τ', st', ?_, r⟩
      rw [sWhile_eq, e1]
      rcases e2 with e2 | e2 <;> · simp only [Rs.go_ok, if_true]; rw [e2]; exact e3
theorem fEq_fl {x y : D} {k l : Nat} {st : Store} (hx : Fl k x) (hy : Fl l y) (h1 : k ≤ 64 := by decide) (h2 : l ≤ 64 := by decide) : fEq x y st = .ok (.bl (eqD x y)) st := by
  unfold fEq
  rw [if_pos ⟨hx.sh h1, hy.sh h2⟩]
/-- a comprehension with a filter -/
theorem compS_filt {α : Type} {g : SG} {t : SB} {m : SE} {vs : List Nat} {τ : En} {h f : α → D} {c : α → Bool} {st : Store} : ∀ (l : List α) (acc : List D), (∀ a ∈ l, ∃ τ1, g (h a) (wipeE τ vs) = some τ1 ∧ t τ1 st = .ok (c a) st ∧ (c a = true → m τ1 st = .ok (f a) st)) → acc.length + l.length ≤ sizeLine → compS g t m vs (l.map h) τ st acc = .ok (acc ++ (l.filter c).map f) st
  | [], acc, _, _ => by simp [compS]
  | a :: l, acc, hh, hl => by
    obtain ⟨τ1, e1, e2, e3⟩ := hh a List.mem_cons_self
    have hl' : acc.length < sizeLine := by simp only [List.length_cons] at hl; omega
    rw [List.map_cons, compS, e1]
    dsimp only
    rw [e2]
    cases hc : c a with
    | false =>
      dsimp only
      rw [compS_filt l acc (fun d hd => hh d (List.mem_cons_of_mem _ hd)) (by simp only [List.length_cons] at hl; omega), List.filter_cons, hc]
      rfl
    | true =>
      dsimp only
      rw [e3 hc]
      dsimp only
      rw [if_pos hl', compS_filt l _ (fun d hd => hh d (List.mem_cons_of_mem _ hd)) (by simp only [List.length_append, List.length_cons, List.length_nil] at hl ⊢; omega), List.filter_cons, hc]
      simp
@[simp] theorem x_mRevL {m : SE} {σ : En} {st : Store} : mRevL m σ st = (m σ st).bind fun d st1 => match listOf d st1 with
  | some xs => .ok xs.reverse st1
  | none => .no := rfl
/-! ### lengths, orders -/
def lens (p : Pm d) : List Nat := (cycs p).map List.length
/-- the lengths, the greatest first -/
def lensS (p : Pm d) : List Nat := ((sortI ((lens p).map fun (k : Nat) => (k : Int))).reverse).map Int.toNat
theorem lensS_cast (p : Pm d) : (lensS p).map (fun (k : Nat) => (k : Int)) = (sortI ((lens p).map fun (k : Nat) => (k : Int))).reverse := by
  rw [lensS, List.map_map]
  refine Eq.trans (List.map_congr_left (g := id) fun i hi => ?_) (List.map_id _)
  rw [List.mem_reverse, (sortI_perm _).mem_iff] at hi
  obtain ⟨k, _, rfl⟩ := List.mem_map.mp hi
  simp
theorem lensS_perm (p : Pm d) : (lensS p).Perm (lens p) := by
  have h : ((sortI ((lens p).map fun (k : Nat) => (k : Int))).reverse).Perm ((lens p).map fun (k : Nat) => (k : Int)) := (List.reverse_perm _).trans (sortI_perm _)
  have h2 := h.map Int.toNat
  rw [List.map_map] at h2
  have e : (List.map (Int.toNat ∘ fun (k : Nat) => (k : Int)) (lens p)) = lens p := by
    refine Eq.trans (List.map_congr_left (g := id) fun i hi => ?_) (List.map_id _)
    simp
  rw [e] at h2
  exact h2
def typeD (p : Pm d) : D := .tup ((lensS p).map nD)
theorem typeD_eq (p : Pm d) : typeD p = .tup (((sortI ((lens p).map fun (k : Nat) => (k : Int))).reverse).map D.int) := by
  rw [typeD, ← lensS_cast, List.map_map]; rfl
@[simp] theorem lf_typeD {p : Pm d} : lf (typeD p) = true := by simp [typeD, List.all_map]
theorem lens_pos {p : Pm d} {k : Nat} (h : k ∈ lens p) : 0 < k ∧ k ≤ d := by
  obtain ⟨c, hc, rfl⟩ := List.mem_map.mp h
  obtain ⟨_, a, r, z, rfl, _⟩ := cycs_cy hc
  have hn := nodup_elem (cycs_nd p) hc
  have := nodup_len (D := List.range d) hn fun x hx => List.mem_range.mpr (cycs_lt (List.mem_flatten.mpr ⟨_, hc, hx⟩))
  simp at this ⊢; omega
def ord (l : List Nat) : Nat := l.foldl Nat.lcm 1
theorem ord_perm {l l' : List Nat} (h : l.Perm l') : ord l = ord l' := by
  unfold ord
  exact h.foldl_eq' (fun x _ y _ z => by rw [Nat.lcm_assoc, Nat.lcm_comm x y, ← Nat.lcm_assoc]) 1
/-! ### signs -/
def sgI (p : Pm d) : Int := if odd p = true then -1 else 1
theorem sgI_mul (p q : Pm d) : sgI (p * q) = sgI p * sgI q := by
  unfold sgI
  rw [odd_mul]
  cases odd p <;> cases odd q <;> rfl
theorem cycs_le (p : Pm d) : (cycs p).length ≤ d := by have := told_count p; omega
/-- the number of the turned pairs -/
def turns (p : Pm d) : Nat → Nat
  | 0 => 0
  | n + 1 => turns p n + ((List.range n).filter fun y => decide (p.f n < p.f y)).length
theorem xr_len {h : Nat → Nat → Bool} {x : Nat} : ∀ (l : List Nat), xr h x l = decide ((l.filter (h x)).length % 2 = 1)
  | [] => rfl
  | y :: l => by
    rw [xr, xr_len l, List.filter_cons]
    cases h x y with
    | false => rw [if_neg (by decide), Bool.false_xor]
    | true =>
      rw [if_pos rfl, List.length_cons]
      by_cases c : (l.filter (h x)).length % 2 = 1
      · rw [decide_eq_true c, decide_eq_false (by omega)]; rfl
      · rw [decide_eq_false c, decide_eq_true (by omega)]; rfl
theorem turns_tt (p : Pm d) : ∀ n, tt (inv2 p.f) (List.range n) = decide (turns p n % 2 = 1)
  | 0 => rfl
  | n + 1 => by
    have hp : (List.range (n + 1)).Perm (n :: List.range n) := by
      rw [List.range_succ]
      exact List.perm_append_comm
    rw [tt_perm (inv2_sym fun x y => p.inj) hp, tt, turns_tt p n, xr_len, turns]
    have e : (List.range n).filter (inv2 p.f n) = (List.range n).filter fun y => decide (p.f n < p.f y) := List.filter_congr fun y hy => by
      rw [List.mem_range] at hy
      unfold inv2
      rw [decide_eq_false (show ¬ n < y by omega)]
      simp
    rw [e]
    obtain ⟨a, ha⟩ : ∃ a, a = ((List.range n).filter fun y => decide (p.f n < p.f y)).length := ⟨_, rfl⟩
    rw [← ha]
    by_cases c1 : a % 2 = 1 <;> by_cases c2 : turns p n % 2 = 1
    · rw [decide_eq_true c1, decide_eq_true c2, decide_eq_false (by omega)]; rfl
    · rw [decide_eq_true c1, decide_eq_false c2, decide_eq_true (by omega)]; rfl
    · rw [decide_eq_false c1, decide_eq_true c2, decide_eq_true (by omega)]; rfl
    · rw [decide_eq_false c1, decide_eq_false c2, decide_eq_false (by omega)]; rfl
theorem sgI_turns (p : Pm d) : sgI p = 1 - 2 * ((turns p d : Int) % 2) := by
  unfold sgI
  rw [odd, turns_tt]
  by_cases c : turns p d % 2 = 1
  · rw [if_pos (decide_eq_true c)]; omega
  · rw [if_neg (by simpa using c)]; omega
theorem sgI_cycs (p : Pm d) : sgI p = if ((d : Int) - ((cycs p).length : Int)) % 2 = 0 then 1 else -1 := by
  have := cycs_le p
  unfold sgI
  rw [odd_cycs]
  by_cases c : (d - (cycs p).length) % 2 = 1
  · rw [if_pos (decide_eq_true c), if_neg (by omega)]
  · rw [if_neg (by simpa using c), if_pos (by omega)]
end Fx

set_option Elab.async false
set_option linter.all false
set_option maxRecDepth 100000
set_option maxHeartbeats 4000000
namespace Fx
open PySem L2 PyProof.Rows SrtO
section
variable {prog : Program} {w : World} {A : Around} {E : Value → Shared → Prop} {s : Shared}
theorem collect_tup {l : Addr} {o : Obj} {vs : List Value} {n : Nat} {Q : List Value → Shared → Prop} (ho : s.heap.get? l = some o) (hc : o.cls = .type "tuple") (hd : o.data = .seq vs.toArray n)
    (h : Q vs { s with heap := (s.heap.push (seqObj "list" #[] 0)).update s.heap.objs.size (Obj.mapSeq (· ++ vs.toArray)) }) (hsz : vs.length ≤ sizeLine) :
    wpAny (model prog w) A (collect (.ref l)) Q E s := by
  unfold collect
  refine wpAny_bind (wpAny_runValue (codeAny_builtin entry_proto_collect' ?_))
  show wpAny _ _ (do again (.builtin "list.__iadd__" ⟨[← newList [], .ref l], []⟩)) _ _ s
  refine wpAny_bind (wpAny_newList (wpAny_pure ⟨Code.quiet_builtin _ (by decide +kernel), codeAny_builtin entry_list_iadd' ?_⟩))
  show wpAny _ _ (Builtin.List.listExtendWith (.ref s.heap.objs.size) (.ref l) (.ref s.heap.objs.size)) _ _ { s with heap := s.heap.push (seqObj "list" #[] 0) }
  unfold Builtin.List.listExtendWith
  have ho' : (s.heap.push (seqObj "list" #[] 0)).get? l = some o := Heap.get?_push_of_some _ ho
  refine wpAny_bind (wpAny_typeOf (T := "tuple") ⟨o, ho', hc⟩ ?_)
  have ht : (Value.type "tuple" == Value.type "tuple") = true := by rfl
  rw [if_pos (by rw [ht]; simp)]
  refine wpAny_bind (listItems_at ho' hd ?_)
  refine wpAny_bind (listItems_at (xs := #[]) (n := 0) (Heap.get?_push_size _ rfl) rfl ?_)
  rw [if_neg (by simp)]
  refine wpAny_bind (listUpdate_at (xs := #[]) (n := 0) (Heap.get?_push_size _ rfl) rfl ?_ (Nat.zero_le _) (by show (#[] ++ vs.toArray).size ≤ sizeLine + 1; simp only [Array.size_append, List.size_toArray, List.length_nil]; omega))
  refine wpAny_pure ?_
  show wpAny (model prog w) A (do
      let o ← load s.heap.objs.size
      match o.data with
      | .seq xs _ => pure xs.toList
      | _ => unsupported "internal:collect") Q E { s with heap := (s.heap.push (seqObj "list" #[] 0)).update s.heap.objs.size (Obj.mapSeq (· ++ vs.toArray)) }
  refine wpAny_bind (wpAny_load (get?_update_seq (Heap.get?_push_size _ rfl) _) ?_)
  show wpAny _ _ (pure ((#[] : Array Value) ++ vs.toArray).toList) Q E _
  rw [show ((#[] : Array Value) ++ vs.toArray).toList = vs by simp]
  exact wpAny_pure h
theorem sorted_ordT {l : Addr} {o : Obj} {vs : List Value} {n : Nat} {ltv : Value → Value → Bool} {Q : Value → Shared → Prop} (O : Swo ltv) (ho : s.heap.get? l = some o) (hc : o.cls = .type "tuple") (hd : o.data = .seq vs.toArray n) (hz : vs.length ≤ sizeLine)
    (hS : 2 ≤ vs.length → ∀ (h₁ : Heap) (a : Addr), h₁.get? a = some (seqObj "list" vs.toArray 0) → (∀ b o, s.heap.get? b = some o → b ≠ a ∧ h₁.get? b = some o) → SortableO prog w A.in1.in1 { s with heap := h₁ } a vs ltv)
    (h : ∀ out : List Value, Srtd ltv out → Stb ltv out vs → Q (.ref (s.heap.objs.size + 1)) { s with heap := sortedAll s.heap vs out.toArray }) :
    wpAny (model prog w) A (call (.builtin "sorted") [.ref l]) Q E s := by
  refine Calls.call_function_entry kind_sorted plain_sorted entry_sorted (args_sorted1 _) ?_
  unfold Builtin.«sorted»
  refine wpAny_bind (m := checkCount "sorted" 1 1 _) (wpAny_pure ?_)
  refine wpAny_bind (collect_tup ho hc hd ?_ hz)
  refine wpAny_bind (wpAny_newList ?_ hz)
  have hsz : ((s.heap.push (seqObj "list" #[] 0)).update s.heap.objs.size (Obj.mapSeq (· ++ vs.toArray))).objs.size = s.heap.objs.size + 1 := by
    rw [Heap.size_update, size_push']
  have hoL : (((s.heap.push (seqObj "list" #[] 0)).update s.heap.objs.size (Obj.mapSeq (· ++ vs.toArray))).push (seqObj "list" vs.toArray 0)).get? (s.heap.objs.size + 1) = some (seqObj "list" vs.toArray 0) := by
    rw [← hsz]; exact Heap.get?_push_size _ rfl
  have keep : ∀ b o, s.heap.get? b = some o → b ≠ s.heap.objs.size + 1 ∧ (((s.heap.push (seqObj "list" #[] 0)).update s.heap.objs.size (Obj.mapSeq (· ++ vs.toArray))).push (seqObj "list" vs.toArray 0)).get? b = some o := fun b o q => by
    have hlt : b < s.heap.objs.size := Heap.lt_size q
    refine ⟨Nat.ne_of_lt (Nat.lt_succ_of_lt hlt), Heap.get?_push_of_some _ ?_⟩
    rw [Heap.get?_update_ne _ _ _ _ (Nat.ne_of_lt hlt)]
    exact Heap.get?_push_of_some _ q
  show wpAny _ _ _ _ _ { s with heap := ((s.heap.push (seqObj "list" #[] 0)).update s.heap.objs.size (Obj.mapSeq (· ++ vs.toArray))).push (seqObj "list" vs.toArray 0) }
  rw [hsz]
  refine wpAny_bind (wpAny_holding (wpAny_call_entry slot_list_sort ⟨_, hoL, rfl⟩ entry_list_sort (list_sort_ord O hoL hz (fun h2 => hS h2 _ _ hoL keep) fun out hs hb => ⟨_, rfl, ?_⟩) (args_list_sort _)))
  exact wpAny_pure ⟨_, rfl, h out hs hb⟩
end
def rSortedTI (K : PySem.W.Frag) : List V → Hp → VK → Prop := fun vs H Q => ∃ (a : Addr) (ns : List Int), vs = [V.ref a] ∧ SqT K H a (ns.map V.int) ∧
  ∀ (ns' : List Int) (p : Addr), ns'.Perm ns → ns'.Pairwise (· ≤ ·) → H p = none → Q (.ref p) (upd H p (.lst (ns'.map V.int)))
section
variable {X : Cx} {W : WX}
theorem cr_sortedTI : CallR X (.builtin "sorted") (rSortedTI X.K) := by
  intro pins s σ H vs us Q I r h
  obtain ⟨a, ns, rfl, hs, q⟩ := h
  obtain ⟨its, rv, ⟨o, ho, hc, n, hd⟩, hz⟩ := I.tuple hs
  rw [Vals.ref1 r]
  have hi := rv.ints
  refine sorted_ordT swo_int ho hc hd (by rw [← rv.length]; exact hz) (fun h2 h₁ a' _ _ => ints_sortable hi h2) fun out h1 h2 => ?_
  obtain ⟨k1, k2, k3⟩ := ints_out hi h1 h2
  obtain ⟨ep, he'⟩ := PyProof.Rows.sortedAll_at s.heap its out.toArray
  have hlen : ((out.map SrtO.iv).map V.int).length ≤ sizeLine := by
    rw [List.length_map, k2.length_eq]
    rw [List.length_map] at hz
    exact hz
  exact ⟨.ref _, upd H (s.heap.objs.size + 1) (.lst ((out.map SrtO.iv).map V.int)), I.laid (t' := s.toks) (fun _ _ => PyProof.Rows.sortedAll_old) (Nat.le_succ _) ⟨hlen, out, ep, vals_of_ints k1, he'⟩, rfl, q _ _ k2 k3 (I.hok.fresh (Nat.le_succ _))⟩
/-- sorted(xs), xs a tuple or a list of ints -/
noncomputable def fSortA : FB (List D) := fun ds st => match ds with
  | [.tup xs] => (match intsOf xs with
    | some ns => .ok ((sortI ns).map D.int) st
    | none => .no)
  | ds => fSorted ds st
theorem cs_sortedA : CallS X (reN X.K) (.builtin "sorted") fSortA := by
  refine ⟨_, cr_sortedTI.or cr_sortedI, fun W σ ρ st H ds vs Q r rv o => ?_⟩
  unfold fSortA at o
  split at o
  · rename_i xs
    split at o
    · rename_i ns hx
      obtain ⟨v, rfl, rd⟩ := rv.one
      simp only [RelD] at rd
      obtain ⟨l, us, rfl, hs, ru⟩ := rd
      have ex := intsOf_eq hx
      subst ex
      rw [ru.ints] at hs
      refine .inl ⟨l, ns, rfl, SqT.of hs, fun ns' p h1 h2 hp => ?_⟩
      have e' : ns' = sortI ns := sorted_uniq (h1.trans (sortI_perm ns).symm) h2 (sortI_sorted ns)
      subst e'
      exact Out.fresh r o hp RelDs.ints'
    · exact o.elim
  · obtain ⟨d, bs, rfl, hx, e⟩ := onInts_ok (f := fun ns => (sortI ns).map D.int) (ds := ds) (st := st) (fun z => by rw [show fSorted ds st = .no from z] at o; exact o)
    rw [show fSorted [d] st = _ from e] at o
    obtain ⟨v, rfl, rd⟩ := rv.one
    obtain ⟨a, us, rfl, h, ru⟩ := listOf_rel r rd hx
    rw [ru.ints] at h
    refine .inr ⟨a, bs, rfl, h, fun ns' p h1 h2 hp => ?_⟩
    have e' : ns' = sortI bs := sorted_uniq (h1.trans (sortI_perm bs).symm) h2 (sortI_sorted bs)
    subst e'
    exact Out.fresh r o hp RelDs.ints'
theorem x_sortA {ns : List Int} {st : Store} : fSortA [.tup (ns.map D.int)] st = .ok ((sortI ns).map D.int) st := by
  unfold fSortA
  simp only [intsOf_map]
end
end Fx

set_option Elab.async false
set_option linter.all false
set_option maxRecDepth 100000
set_option maxHeartbeats 4000000
namespace Fx
open PySem L2
/-! ### loops over a tuple, a list that is only read, or a list that can be written -/
def cOf (o : Option Nat) (ds : List D) : Store → Prop := match o with
  | none => fun _ => True
  | some n => fun st => st[n]? = some (.lst ds)
def ItC (K : PySem.W.Frag) (ρ : Mp) (st : Store) (H : Hp) (J : It) (C : Store → Prop) (ds : List D) : Prop :=
  ∀ (ρ2 : Mp) (st2 : Store) (H2 : Hp), ExtW ρ st.length H ρ2 st2.length H2 → R K ρ2 st2 H2 → C st2 → ∀ i : Nat,
    (∀ d, ds[i]? = some d → J.go i H2 ∧ ∀ x H3, J.yld i H2 x H3 → Ext ρ2 st2.length H2 ρ2 st2.length H3 ∧ R K ρ2 st2 H3 ∧ RelD K ρ2 st2.length H3 d x) ∧
    (ds.length ≤ i → J.stop i H2)
def reIA (K : PySem.W.Frag) : Rl (Option Nat × List D) It := fun _ ρ st H nd J => cOf nd.1 nd.2 st ∧ ItC K ρ st H J (cOf nd.1 nd.2) nd.2
instance {K : PySem.W.Frag} : RlOk K (reIA K) := ⟨fun _ _ h => h⟩
abbrev EvIA (X : Cx) (W : WX) (tg iter : Expr) (m : En → Store → Rs (Option Nat × List D)) : Prop := PI X tg iter (tM X.K (reIA X.K) W m)
def mItA (m : SE) : En → Store → Rs (Option Nat × List D) := fun σ st => (m σ st).bind fun d st1 => match d with
  | .tup ds => .ok (none, ds) st1
  | .lst ds => .ok (none, ds) st1
  | .loc n => (match st1[n]? with
    | some (.lst xs) => .ok (some n, xs) st1
    | _ => .no)
  | _ => .no
section
variable {X : Cx} {W : WX} {e a b c tg iter : Expr} {es ifs : List Expr} {s : Stmt} {ss bs : List Stmt} {m ma mb mc : SE} {ms mi : SA} {ml : En → Store → Rs (Option Nat × List D)} {t : SB} {u v w : SS} {pos : Pos}
theorem eia_seq (h : EvE X W e m) : EvIA X W tg e (mItA m) := by
  refine ⟨fun pins s σ H Rr I q => ?_⟩
  obtain ⟨ρ, τ, st, r0, en, o⟩ := q
  refine thn (h.run pins s σ H (fun x H1 => ∃ a, x = .ref a ∧ ∃ vs ρ1 st1 nd, R X.K ρ1 st1 H1 ∧ ((SqL X.K H1 a vs ∧ cOf nd.1 nd.2 st1 ∧ ItC X.K ρ1 st1 H1 (Itl X.K a) (cOf nd.1 nd.2) nd.2) ∨ (SqT X.K H1 a vs ∧ cOf nd.1 nd.2 st1 ∧ ItC X.K ρ1 st1 H1 (Itt X.K a) (cOf nd.1 nd.2) nd.2)) ∧ Out X.K (reIA X.K) W σ ρ1 st1.length H1 Rr (.ok nd st1)) I ?_) fun v s1 ⟨x, H1, I1, r1, q1⟩ => ?_
  · refine tM.bind (Ra := reD X.K) (Rg := reIA X.K) r0 en o fun d st1 ρ1 H1 v e1 r1 en1 q o1 => ?_
    cases d with
    | tup ds =>
      simp only [RelD] at q
      obtain ⟨a, vs, rfl, hs, rv⟩ := q
      exact ⟨a, rfl, vs, ρ1, st1, (none, ds), r1, .inr ⟨SqT.of hs, trivial, fun ρ2 st2 H2 e r2 _ => itR_tup (SqT.of hs) rv r1 ρ2 st2 H2 e r2⟩, o1⟩
    | lst ds =>
      simp only [RelD] at q
      obtain ⟨a, vs, rfl, hs, rv⟩ := q
      exact ⟨a, rfl, vs, ρ1, st1, (none, ds), r1, .inl ⟨hs.sq, trivial, fun ρ2 st2 H2 e r2 _ => itR_list hs rv r1 ρ2 st2 H2 e r2⟩, o1⟩
    | loc n =>
      simp only at o1
      split at o1
      · rename_i xs hx
        simp only [RelD] at q
        obtain ⟨vs, hv, rv⟩ : ∃ vs, H1 (ρ1.at' n) = some (.lst vs) ∧ RelDs X.K ρ1 st1.length H1 xs vs := r1.obj n _ hx
        exact ⟨ρ1.at' n, q.1, vs, ρ1, st1, (some n, xs), r1, .inl ⟨.inl (.inl hv), hx, itL_list r1 hx⟩, o1⟩
      · exact o1.elim
    | _ => exact o1.elim
  · obtain ⟨a, e, vs, ρ1, st1, nd, rr, hq, o1⟩ := q1
    subst e
    cases r1
    rcases hq with ⟨hq, hx, hI⟩ | ⟨hq, hx, hI⟩
    · obtain ⟨its, rw', p, hz⟩ := I1.list hq
      refine wpAny_pyIter_list p.isList ?_
      refine ⟨s1.heap.objs.size, [s1.heap.objs.size], _, Itl X.K a, H1, rfl, I1.kept (t' := s1.toks) fun b o e => Heap.get?_push_of_some _ e, turn_list a _, ⟨_, Heap.get?_push_size _ rfl, rfl, rfl⟩, fun b hb => ?_, o1 ρ1 H1 _ .refl rr ⟨hx, hI⟩⟩
      have e : b = s1.heap.objs.size := by simpa using hb
      subst e
      exact I1.fpOk (Nat.le_refl _) (I1.hok.fresh (Nat.le_refl _))
    · obtain ⟨its, rw', p, hz⟩ := I1.tuple hq
      refine wpAny_pyIter_tuple (show s1.heap.IsTuple a its.toArray from p) ?_
      refine ⟨s1.heap.objs.size, [s1.heap.objs.size], _, Itt X.K a, H1, rfl, I1.kept (t' := s1.toks) fun b o e => Heap.get?_push_of_some _ e, turn_tuple a _, ⟨_, Heap.get?_push_size _ rfl, rfl, rfl⟩, fun b hb => ?_, o1 ρ1 H1 _ .refl rr ⟨hx, hI⟩⟩
      have e : b = s1.heap.objs.size := by simpa using hb
      subst e
      exact I1.fpOk (Nat.le_refl _) (I1.hok.fresh (Nat.le_refl _))
open Classical in
noncomputable def chkC (C : Store → Prop) (b : SS) : SS := fun τ st => match b τ st with
  | .nx τ' st' => if C st' then .nx τ' st' else .no
  | .ct τ' st' => if C st' then .ct τ' st' else .no
  | r => r
theorem chkC_nx {C : Store → Prop} {b : SS} {τ τ' : En} {st st' : Store} (h : b τ st = .nx τ' st') (h2 : C st') : chkC C b τ st = .nx τ' st' := by
  simp only [chkC, h, h2, if_true]
theorem chkC_rt {C : Store → Prop} {b : SS} {τ : En} {st st' : Store} {d : D} (h : b τ st = .rt d st') : chkC C b τ st = .rt d st' := by
  simp only [chkC, h]
@[simp] theorem chkC_none {ds : List D} {b : SS} : chkC (cOf none ds) b = b := by
  funext τ st
  simp only [chkC, cOf, if_true]
  cases b τ st <;> simp
noncomputable def sForA (ml : En → Store → Rs (Option Nat × List D)) (g : SG) (b : SS) : SS := fun τ st => (ml τ st).go τ fun nd st1 => forS g (chkC (cOf nd.1 nd.2) b) nd.2 τ st1
theorem es_forA {vs : List Nat} {g : SG} (hp : PassesOwn (model X.prog X.w) X.A X.env X.xe) (hc : X.calm = true) (hi : EvIA X W tg iter ml) (hg : EvG X vs tg g) (hb : EvSs X W ss u)
    (hs : ∀ x, foldedSetIterable iter X.env x = pure x := by intro _; rfl) : EvS X W (.For tg iter ss [] pos) (sForA ml g u) := PS.imp (ps_for hp hc hi hg hb hs) fun D σ H ⟨ρ, τ, st, r0, en, o⟩ =>
  tM.goS r0 en o fun nd st1 ρ1 H1 J e1 r1 en1 q o1 => by
    obtain ⟨n, ds⟩ := nd
    obtain ⟨hx, q⟩ := q
    simp only at hx q o1
    obtain ⟨C, hC⟩ : ∃ C, C = cOf n ds := ⟨_, rfl⟩
    rw [← hC] at hx q o1
    refine ⟨fun i m σ H => m = ds.length - i ∧ i ≤ ds.length ∧ ∃ ρ τ st, Ext ρ1 st1.length H1 ρ st.length H ∧ R X.K ρ st H ∧ EnvR X.K ρ st.length H τ σ ∧ C st ∧ OutS X.K W ρ st.length H D (forS g (chkC C u) (ds.drop i) τ st),
      ⟨_, rfl, Nat.zero_le _, ρ1, τ, st1, .refl, r1, en1, hx, by rw [List.drop_zero]; exact o1⟩, fun i m σ H ⟨hm, hi, ρ, τ, st, ex, r, en, hst, o⟩ => ?_⟩
    obtain ⟨go, stop⟩ := q ρ st H ex.w r hst i
    by_cases hl : i < ds.length
    · have hd : ds[i]? = some ds[i] := List.getElem?_eq_getElem hl
      obtain ⟨g1, g2⟩ := go _ hd
      refine .inr ⟨g1, fun σ H => (ds.length - (i + 1)) = ds.length - (i + 1) ∧ i + 1 ≤ ds.length ∧ ∃ ρ τ st, Ext ρ1 st1.length H1 ρ st.length H ∧ R X.K ρ st H ∧ EnvR X.K ρ st.length H τ σ ∧ C st ∧ OutS X.K W ρ st.length H D (forS g (chkC C u) (ds.drop (i + 1)) τ st),
        fun σ' H' h => ⟨ds.length - (i + 1), by omega, h⟩, fun x H3 hy => ?_⟩
      obtain ⟨e3, r3, rd⟩ := g2 x H3 hy
      rw [List.drop_eq_getElem_cons hl] at o
      simp only [forS] at o
      refine ⟨ρ, τ, st, _, r3, en.mono e3 r, rd, ?_⟩
      cases e2 : g ds[i] τ with
      | none => rw [e2] at o; exact o
      | some τ1 =>
        rw [e2] at o
        simp only at o
        intro σ1 en1' _
        refine ⟨ρ, τ1, st, r3, en1', ?_⟩
        have o' := OutS.shift o r e3 r3
        have ex3 := ex.trans r1 r e3
        cases e4 : u τ1 st with
        | nx a s =>
          by_cases hc2 : C s
          · rw [chkC_nx e4 hc2] at o'; exact fun ρ' H' σ' e' r' en' => ⟨rfl, hl, ρ', a, s, ex3.trans r1 r3 e', r', en', hc2, OutS.shift o' r3 e' r'⟩
          · have : chkC C u τ1 st = .no := by simp only [chkC, e4, if_neg hc2]
            rw [this] at o'; exact o'.elim
        | ct a s =>
          by_cases hc2 : C s
          · have : chkC C u τ1 st = .ct a s := by simp only [chkC, e4, if_pos hc2]
            rw [this] at o'; exact fun ρ' H' σ' e' r' en' => ⟨rfl, hl, ρ', a, s, ex3.trans r1 r3 e', r', en', hc2, OutS.shift o' r3 e' r'⟩
          · have : chkC C u τ1 st = .no := by simp only [chkC, e4, if_neg hc2]
            rw [this] at o'; exact o'.elim
        | no => simp only [chkC, e4] at o'; exact o'
        | bk a s => simp only [chkC, e4] at o'; exact o'
        | rt a s => simp only [chkC, e4] at o'; exact o'
        | er x a s => simp only [chkC, e4] at o'; exact o'
    · refine .inl ⟨stop (by omega), ?_⟩
      rw [List.drop_eq_nil_of_le (by omega)] at o
      exact o.next r en
open Classical in
noncomputable def chkCE (C : Store → Prop) (m : SE) : SE := fun τ st => match m τ st with
  | .ok y st' => if C st' then .ok y st' else .no
  | r => r
open Classical in
noncomputable def chkCB (C : Store → Prop) (m : SB) : SB := fun τ st => match m τ st with
  | .ok y st' => if C st' then .ok y st' else .no
  | r => r
theorem chkCE_ok {C : Store → Prop} {m : SE} {τ : En} {st st' : Store} {y : D} (h : m τ st = .ok y st') (h2 : C st') : chkCE C m τ st = .ok y st' := by
  simp only [chkCE, h, h2, if_true]
theorem chkCB_ok {C : Store → Prop} {m : SB} {τ : En} {st st' : Store} {y : Bool} (h : m τ st = .ok y st') (h2 : C st') : chkCB C m τ st = .ok y st' := by
  simp only [chkCB, h, h2, if_true]
@[simp] theorem chkCE_none {ds : List D} {m : SE} : chkCE (cOf none ds) m = m := by
  funext τ st
  simp only [chkCE, cOf, if_true]
  cases m τ st <;> simp
@[simp] theorem chkCB_none {ds : List D} {m : SB} : chkCB (cOf none ds) m = m := by
  funext τ st
  simp only [chkCB, cOf, if_true]
  cases m τ st <;> simp
theorem chkCE_inv {C : Store → Prop} {m : SE} {τ : En} {st st' : Store} {y : D} (h : chkCE C m τ st = .ok y st') : m τ st = .ok y st' ∧ C st' := by
  simp only [chkCE] at h
  split at h
  · rename_i y2 s2 e
    split at h
    · rename_i hc; cases h; exact ⟨e, hc⟩
    · cases h
  · rename_i hne; exact absurd h (hne _ _)
theorem chkCB_inv {C : Store → Prop} {m : SB} {τ : En} {st st' : Store} {y : Bool} (h : chkCB C m τ st = .ok y st') : m τ st = .ok y st' ∧ C st' := by
  simp only [chkCB] at h
  split at h
  · rename_i y2 s2 e
    split at h
    · rename_i hc; cases h; exact ⟨e, hc⟩
    · cases h
  · rename_i hne; exact absurd h (hne _ _)
noncomputable def mCompA (ml : En → Store → Rs (Option Nat × List D)) (g : SG) (t : SB) (m : SE) (vs : List Nat) : SA := fun τ st => (ml τ st).bind fun nd st1 => compS g (chkCB (cOf nd.1 nd.2) t) (chkCE (cOf nd.1 nd.2) m) vs nd.2 τ st1 []
theorem tM.lcA {g : SG} {vs : List Nat} {σ : St} {H : Hp} {Q : VK} (h : tM X.K (reN X.K) W (mCompA ml g t m vs) σ H Q) : tLc (tM X.K (reIA X.K) W ml) (tG X.K vs g) (tM X.K reB W0 t) (tM X.K (reD X.K) W0 m) vs σ H Q := by
  obtain ⟨ρ, τ, st, r0, en, o⟩ := h
  refine tM.bind (Ra := reIA X.K) r0 en (show Out X.K (reN X.K) W σ ρ st.length H (fun v H' => Q v H') _ from o) fun nd st1 ρ1 H1 J e1 r1 en1 q o1 => ?_
  obtain ⟨n, ds⟩ := nd
  obtain ⟨hx, q⟩ := q
  simp only at hx q o1
  obtain ⟨C, hC⟩ : ∃ C, C = cOf n ds := ⟨_, rfl⟩
  rw [← hC] at hx q o1
  intro p hp
  have hpH : ∀ {x : Addr}, H1 x = none → H x = none := fun z => e1.none_of r1 z
  refine ⟨fun i k H' => k = ds.length - i ∧ i ≤ ds.length ∧ ∃ ρ' st' acc us, ρ'.hid = ρ1.hid ∧ Ext ρ1 st1.length H1 ρ' st'.length H' ∧ R X.K (ρ'.hide p) st' H' ∧ EnvR X.K (ρ'.hide p) st'.length H' τ σ ∧ H' p = some (.lst us) ∧
      RelDs X.K (ρ'.hide p) st'.length H' acc us ∧ C st' ∧ Out X.K (reN X.K) W σ ρ1 st1.length H1 Q (compS g (chkCB C t) (chkCE C m) vs (ds.drop i) τ st' acc), ⟨_, rfl, Nat.zero_le _, ρ1, st1, [], [], rfl, r1.push_ext hp, r1.hide hp rfl, en1.hideN hp, upd_same, .nil, hx, by rw [List.drop_zero]; exact o1⟩, fun i k H' ⟨hk, hi, ρ', st', acc, us, hh, ex, rr, en', hpu, ra, hst, oo⟩ => ?_⟩
  have rs := R.show' rr
  obtain ⟨go, stop⟩ := q (ρ'.hide p) st' H' (ex.hideW hp) rr hst i
  by_cases hl : i < ds.length
  · have hd : ds[i]? = some ds[i] := List.getElem?_eq_getElem hl
    obtain ⟨g1, g2⟩ := go _ hd
    rw [List.drop_eq_getElem_cons hl] at oo
    simp only [compS] at oo
    refine .inr ⟨g1, fun H' => ∃ ρ' st' acc us, ρ'.hid = ρ1.hid ∧ Ext ρ1 st1.length H1 ρ' st'.length H' ∧ R X.K (ρ'.hide p) st' H' ∧ EnvR X.K (ρ'.hide p) st'.length H' τ σ ∧ H' p = some (.lst us) ∧
      RelDs X.K (ρ'.hide p) st'.length H' acc us ∧ C st' ∧ Out X.K (reN X.K) W σ ρ1 st1.length H1 Q (compS g (chkCB C t) (chkCE C m) vs (ds.drop (i + 1)) τ st' acc), fun H2 h => ⟨ds.length - (i + 1), by omega, rfl, hl, h⟩, fun x H3 hy => ?_⟩
    obtain ⟨e3, r3, rd⟩ := g2 x H3 hy
    have en3 := (en'.mono e3 rr).wipe vs
    refine ⟨ρ'.hide p, wipeE τ vs, st', _, r3, en3, rd, ?_⟩
    cases q1 : g ds[i] (wipeE τ vs) with
    | none => rw [q1] at oo; exact oo
    | some τ1 =>
      rw [q1] at oo
      simp only at oo
      refine fun σ1 en4 w1 => ⟨w1.trans wipe_wipe, ρ'.hide p, τ1, st', r3, en4, ?_⟩
      have ra3 := RelDs.mono e3 rr acc ra
      have nxt : ∀ {ρ4 : Mp} {st4 : Store} {H4 : Hp}, Ext (ρ'.hide p) st'.length H' ρ4 st4.length H4 → R X.K ρ4 st4 H4 → ∃ ρ5 : Mp, ρ5.hid = ρ1.hid ∧ ρ4 = ρ5.hide p ∧ Ext ρ1 st1.length H1 ρ5 st4.length H4 ∧ H4 p = some (.lst us) := fun {ρ4 st4 H4} e4 r4 => by
        have u := unhide (ρ := ρ') (p := p) e4.hid
        refine ⟨⟨ρ4.at', ρ'.hid⟩, hh, u, ex.trans r1 rs (st' := st') ?_, e4.keep p _ hpu fun i hi z => rr.sep i hi (.inr z)⟩
        exact ⟨e4.le, e4.old, e4.new, e4.keep, rfl⟩
      cases q2 : chkCB C t τ1 st' with
      | no =>
        rw [q2] at oo; exact oo.elim
      | er x s => rw [q2] at oo; exact oo.elim
      | ok b st2 =>
        rw [q2] at oo
        obtain ⟨q2', hst2⟩ := chkCB_inv q2
        rw [q2']
        intro ρ4 H4 b' e4 r4 hb
        cases (show b = b' from hb)
        have e34 := e3.trans rr r3 e4
        obtain ⟨ρ5, h5, u5, ex5, hp5⟩ := nxt e34 r4
        have en5 : EnvR X.K ρ4 st2.length H4 τ σ := (en'.mono e34 rr)
        have ra5 := RelDs.mono e34 rr acc ra
        cases b with
        | false =>
          subst u5
          exact ⟨ρ5, st2, acc, us, h5, ex5, r4, en5, hp5, ra5, hst2, oo⟩
        | true =>
          simp only at oo
          refine ⟨ρ4, τ1, st2, r4, en4.mono e4 r3, ?_⟩
          cases q3 : chkCE C m τ1 st2 with
          | no => rw [q3] at oo; exact oo.elim
          | er x s => rw [q3] at oo; exact oo.elim
          | ok y st6 =>
            rw [q3] at oo
            obtain ⟨q3', hst6⟩ := chkCE_inv q3
            rw [q3']
            simp only at oo
            split at oo
            · rename_i hz
              intro ρ6 H6 vy e6 r6 ry
              have e36 := e34.trans rr r4 e6
              obtain ⟨ρ7, h7, u7, ex7, hp7⟩ := nxt e36 r6
              have ra7 := RelDs.mono e36 rr acc ra
              refine ⟨us, hp7, by rw [← ra7.len] at hz; exact hz, ?_⟩
              subst u7
              have ry' : RelD X.K (ρ7.hide p) st6.length H6 y vy := ry
              exact ⟨ρ7, st6, acc ++ [y], us ++ [vy], h7, ex7.upd_new hp, r6.hw hp7 rfl, (en'.mono e36 rr).hw hp7, upd_same, RelDs.hw hp7 _ (ra7.append (.cons ry' .nil)), hst6, oo⟩
            · exact oo.elim
  · refine .inl ⟨stop (by omega), ?_⟩
    rw [List.drop_eq_nil_of_le (by omega)] at oo
    exact oo ρ' H' (.ref p) ex rs ⟨p, us, rfl, hp, hpu, rr, ra⟩
theorem ef_compA {scope : Scope} {own : List (Str × Nat)} {g : SG} {ifs : List Expr} (hc : X.calm = true) (hN : X.N.Nodup) (hi : EvIA X W tg iter ml) (ok : BlkOk X.N X.env.scope scope own)
    (hg : ∀ (s : Shared) (H : Hp) (C : Addr) (cl : List (Str × Addr)) (fp : List Addr), EvG (X.blk s H scope (compEnvC scope cl C X.env) fp) (own.map (·.2)) tg g)
    (ht : ∀ (s : Shared) (H : Hp) (C : Addr) (cl : List (Str × Addr)) (fp : List Addr), EvT (X.blk s H scope (compEnvC scope cl C X.env) fp) W0 ifs t)
    (he : ∀ (s : Shared) (H : Hp) (C : Addr) (cl : List (Str × Addr)) (fp : List Addr), EvE (X.blk s H scope (compEnvC scope cl C X.env) fp) W0 e m)
    (hs : ∀ x, foldedSetIterable iter X.env x = pure x := by intro _; rfl) :
    EvF X W (.ListComp e [⟨tg, iter, ifs, 0⟩] scope pos) (mCompA ml g t m (own.map (·.2))) :=
  PE.imp (pe_lc (g := tG X.K (own.map (·.2)) g) (tt := tM X.K reB W0 t) (te := tM X.K (reD X.K) W0 m) hc hN hi ok hg ht he hs) fun σ H Q h => tM.lcA h
end
@[simp] theorem x_mItA {m : SE} {σ : En} {st : Store} : mItA m σ st = (m σ st).bind fun d st1 => match d with
  | .tup ds => .ok (none, ds) st1
  | .lst ds => .ok (none, ds) st1
  | .loc n => (match st1[n]? with
    | some (.lst xs) => .ok (some n, xs) st1
    | _ => .no)
  | _ => .no := rfl
@[simp] theorem x_sForA {ml : En → Store → Rs (Option Nat × List D)} {g : SG} {b : SS} {τ : En} {st : Store} : sForA ml g b τ st = (ml τ st).go τ fun nd st1 => forS g (chkC (cOf nd.1 nd.2) b) nd.2 τ st1 := rfl
@[simp] theorem x_mCompA {ml : En → Store → Rs (Option Nat × List D)} {g : SG} {t : SB} {m : SE} {vs : List Nat} {τ : En} {st : Store} : mCompA ml g t m vs τ st = (ml τ st).bind fun nd st1 => compS g (chkCB (cOf nd.1 nd.2) t) (chkCE (cOf nd.1 nd.2) m) vs nd.2 τ st1 [] := rfl
/-! ### powers -/
def rPow : Int → Int → Prop := CPow
theorem ex_powFits : ∃ f : Int → Int → Bool, ∀ i j : Int, f i j = true ↔ CPow i j := ⟨fun i j => decide (0 ≤ j ∧ j ≤ 1000000 ∧ i.natAbs < 2 ^ 64), fun i j => decide_eq_true_iff⟩
noncomputable def powFits : Int → Int → Bool := ex_powFits.choose
theorem powFits_iff {i j : Int} : powFits i j = true ↔ CPow i j := ex_powFits.choose_spec i j
theorem ex_pw : ∃ f : Int → Int → Int, ∀ i j : Int, f i j = i ^ j.toNat := ⟨fun i j => i ^ j.toNat, fun _ _ => rfl⟩
noncomputable def pw : Int → Int → Int := ex_pw.choose
theorem pw_eq (i j : Int) : pw i j = i ^ j.toNat := ex_pw.choose_spec i j
noncomputable def fPow : D → D → Store → Rs D := onIIc powFits fun i j => .int (pw i j)
theorem opS_pow {X : Cx} : OpS X (binaryOp .Pow) fPow := by
  refine ⟨_, op_pow, fun W σ ρ st H x y vx vy Q r rx ry o => ?_⟩
  cases x with
  | int i =>
    cases y with
    | int j =>
      simp only [fPow, onIIc] at o
      split at o
      · rename_i h
        simp only [RelD] at rx ry
        exact ⟨i, j, rx, ry, powFits_iff.mp h, o.here r (by simp [reD, RelD, pw_eq])⟩
      · exact o.elim
    | _ => exact o.elim
  | _ => exact o.elim
end Fx

set_option Elab.async false
set_option linter.all false
set_option maxRecDepth 100000
set_option maxHeartbeats 4000000
namespace Fx
open PySem L2
variable {d : Nat}
theorem eqv_intsL : ∀ {a b : List Int}, PyData.eqvAll (toPys (a.map D.int)) (toPys (b.map D.int)) = decide (a = b)
  | [], [] => by simp [toPys, PyData.eqvAll]
  | [], _ :: _ => by simp [toPys, PyData.eqvAll]
  | _ :: _, [] => by simp [toPys, PyData.eqvAll]
  | x :: a, y :: b => by
    simp only [List.map_cons, toPys, toPy, PyData.eqvAll, PyData.eqv, eqv_intsL (a := a) (b := b)]
    by_cases h : x = y
    · subst h; simp
    · simp [h]
theorem fEq_lst {a b : List Int} {st : Store} : fEq (.lst (a.map D.int)) (.lst (b.map D.int)) st = .ok (.bl (decide (a = b))) st := by
  have h : ∀ a : List Int, Fl 1 (.lst (a.map D.int)) := fun a => Fl.lst fun x hx => by
    obtain ⟨n, _, rfl⟩ := List.mem_map.mp hx; exact .int
  rw [fEq_fl (h a) (h b)]
  unfold eqD
  simp only [toPy, PyData.eqv]
  rw [eqv_intsL]
def rngI (n : Nat) : List Int := (List.range n).map fun (k : Nat) => (k : Int)
theorem rangeD_rngI (n : Nat) : rangeD 0 (n : Int) = (rngI n).map D.int := by rw [rangeD_nat, rngI, List.map_map]; rfl
theorem rngI_sorted (n : Nat) : (rngI n).Pairwise (· ≤ ·) := by
  rw [rngI, List.pairwise_map]
  exact List.pairwise_lt_range.imp fun h => by omega
/-- sorted, a permutation is 0, 1, .. -/
theorem isP_sorted {ns : List Int} : isP (.tup (ns.map D.int)) = decide (sortI ns = rngI ns.length) := by
  cases q : isP (.tup (ns.map D.int)) with
  | true =>
    symm
    refine decide_eq_true ?_
    obtain ⟨e, p, hx, hl⟩ := isP_inv q
    have hl' : ns.length = e := by simpa [lenD] using hl
    have hn : ns = (p.list).map fun (k : Nat) => (k : Int) := by
      have h2 : ns.map D.int = p.list.map nD := by
        have : D.tup (ns.map D.int) = .tup (p.list.map nD) := hx
        injection this
      have := congrArg (List.map fun x => match x with | D.int i => i | _ => 0) h2
      simpa [Function.comp_def, nD] using this
    refine sorted_uniq ((sortI_perm ns).trans ?_) (sortI_sorted ns) (rngI_sorted _)
    rw [hl', hn, rngI, Pm.list]
    exact (range_perm p).map _
  | false =>
    symm
    refine decide_eq_false fun h => ?_
    have hp : ns.Perm (rngI ns.length) := by rw [← h]; exact (sortI_perm ns).symm
    have hnd : ns.Nodup := by
      refine hp.nodup_iff.mpr ?_
      rw [rngI]
      exact List.Pairwise.map _ (fun a b hne e => hne (by omega)) List.nodup_range
    have : isP (.tup (ns.map D.int)) = true := by
      show permL (ns.map D.int).length [] (ns.map D.int) = true
      rw [List.length_map]
      refine permL_of (fun i hi => ?_) hnd
      have hm := hp.mem_iff.mp hi
      rw [rngI] at hm
      obtain ⟨k, hk, rfl⟩ := List.mem_map.mp hm
      rw [List.mem_range] at hk
      exact ⟨by omega, by omega, by simp⟩
    rw [this] at q; cases q
theorem enum_list (c : List Nat) : enumD (c.map nD) = (List.range c.length).map fun i => D.tup [nD i, nD (c.getD i 0)] := by
  refine List.ext_getElem? fun i => ?_
  rw [enumD_get]
  by_cases h : i < c.length
  · simp [h, List.getD_eq_getElem?_getD]
  · rw [List.getElem?_eq_none (by simp; omega), List.getElem?_eq_none (by simp; omega)]; rfl
/-- the places along a cycle, moved on by k -/
def stepP (k : Int) (F : List D) (c : List Nat) : List D := (List.range c.length).foldl (fun F n => F.set (c.getD n 0) (nD (c.getD (((n : Int) + k) % (c.length : Int)).toNat 0))) F
def powF (p : Pm d) (k : Int) : List D := (cycs p).foldl (stepP k) (List.replicate d (.int 0))
theorem fold_ints {c : List Nat} {k : Int} : ∀ (l : List Nat) (F : List D), (∀ x ∈ F, ∃ i, x = .int i) → ((l.foldl (fun F n => F.set (c.getD n 0) (nD (c.getD (((n : Int) + k) % (c.length : Int)).toNat 0))) F).length = F.length) ∧ ∀ x ∈ l.foldl (fun F n => F.set (c.getD n 0) (nD (c.getD (((n : Int) + k) % (c.length : Int)).toNat 0))) F, ∃ i, x = .int i
  | [], F, h => ⟨rfl, h⟩
  | n :: l, F, h => by
    obtain ⟨h1, h2⟩ := fold_ints (c := c) (k := k) l (F.set (c.getD n 0) (nD (c.getD (((n : Int) + k) % (c.length : Int)).toNat 0))) fun x hx => by
      rcases List.mem_or_eq_of_mem_set hx with hx | rfl
      · exact h x hx
      · exact ⟨_, rfl⟩
    exact ⟨by rw [List.foldl_cons, h1, List.length_set], h2⟩
theorem powF_ints (p : Pm d) (k : Int) : (powF p k).length = d ∧ ∀ x ∈ powF p k, ∃ i, x = .int i := by
  have key : ∀ (cs : List (List Nat)) (F : List D), (∀ x ∈ F, ∃ i, x = .int i) → (cs.foldl (stepP k) F).length = F.length ∧ ∀ x ∈ cs.foldl (stepP k) F, ∃ i, x = .int i := by
    intro cs
    induction cs with
    | nil => exact fun F h => ⟨rfl, h⟩
    | cons c cs ih =>
      intro F h
      obtain ⟨h1, h2⟩ := fold_ints (c := c) (k := k) (List.range c.length) F h
      obtain ⟨h3, h4⟩ := ih (stepP k F c) h2
      exact ⟨by rw [List.foldl_cons, h3]; exact h1, h4⟩
  obtain ⟨h1, h2⟩ := key (cycs p) (List.replicate d (.int 0)) fun x hx => ⟨0, List.eq_of_mem_replicate hx⟩
  exact ⟨by rw [powF, h1, List.length_replicate], h2⟩
theorem cyc_lt {p : Pm d} {c : List Nat} (h : c ∈ cycs p) : 0 < c.length ∧ ∀ n, n < c.length → c.getD n 0 < d := by
  refine ⟨(lens_pos (List.mem_map.mpr ⟨c, h, rfl⟩)).1, fun n hn => ?_⟩
  rw [List.getD_eq_getElem?_getD, List.getElem?_eq_getElem hn]
  exact cycs_lt (List.mem_flatten.mpr ⟨c, h, List.getElem_mem hn⟩)
end Fx

set_option Elab.async false
set_option linter.all false
set_option maxRecDepth 100000
set_option maxHeartbeats 4000000
namespace Fx
open PySem L2 PyProof.Rows
section
variable {X : Cx} {W : WX} {a b c o i e k value : Expr} {ma mb mo mk mv : SE} {na : SA} {p p2 pos apos cpos : Pos}
/-! ### x in xs, items of any depth -/
def rInA (K : PySem.W.Frag) (neg : Bool) : R2 := fun x y H Q => ∃ d ds, Dp K H x d ∧ (Dp K H y (.tuple ds) ∨ Dp K H y (.list ds)) ∧ SeqAt.shaped d = true ∧ PyData.canLayAll0 ds = true ∧ Q (.bl (if neg = true then !ds.any fun z => PyData.eqv z d else ds.any fun z => PyData.eqv z d)) H
theorem roomA {A : Around} {ds : List PyData} {d : PyData} (hu : A.units + 65 < cLine) (hd : SeqAt.shaped d = true) : A.units + 1 + min (PyData.depthAll ds) d.depth < cLine := by
  have := Nat.min_le_right (PyData.depthAll ds) d.depth
  unfold SeqAt.shaped at hd
  simp only [Bool.and_eq_true, decide_eq_true_eq] at hd
  have := hd.2
  omega
theorem op_inA (hu : X.A.units + 65 < cLine) : OpR X (compareOp .In) (rInA X.K false) := by
  intro pins s σ H x y v u Q I rx ry h
  obtain ⟨d, ds, hd, he, sd, se, q⟩ := h
  obtain ⟨as, r1⟩ := Dp.reads I d x v hd rx
  rcases he with he | he
  · obtain ⟨bs, r2⟩ := Dp.reads I (.tuple ds) y u he ry
    exact SeqAt.in_tuple_reads r2 r1 se (SeqAt.canLay_of_shaped sd) (roomA hu sd) ⟨.bl _, H, I, rfl, q⟩
  · obtain ⟨bs, r2⟩ := Dp.reads I (.list ds) y u he ry
    exact SeqAt.in_list_reads r2 r1 se (SeqAt.canLay_of_shaped sd) (roomA hu sd) ⟨.bl _, H, I, rfl, q⟩
theorem op_notInA (hu : X.A.units + 65 < cLine) : OpR X (compareOp .NotIn) (rInA X.K true) := by
  intro pins s σ H x y v u Q I rx ry h
  obtain ⟨d, ds, hd, he, sd, se, q⟩ := h
  obtain ⟨as, r1⟩ := Dp.reads I d x v hd rx
  rcases he with he | he
  · obtain ⟨bs, r2⟩ := Dp.reads I (.tuple ds) y u he ry
    exact SeqAt.notIn_tuple_reads r2 r1 se (SeqAt.canLay_of_shaped sd) (roomA hu sd) ⟨.bl _, H, I, rfl, q⟩
  · obtain ⟨bs, r2⟩ := Dp.reads I (.list ds) y u he ry
    exact SeqAt.notIn_list_reads r2 r1 se (SeqAt.canLay_of_shaped sd) (roomA hu sd) ⟨.bl _, H, I, rfl, q⟩
theorem any_toPys {x : D} : ∀ xs : List D, ((toPys xs).any fun z => PyData.eqv z (toPy x)) = xs.any fun z => eqD z x
  | [] => rfl
  | d :: ds => by simp only [toPys, List.any_cons, any_toPys ds]; rfl
/-- x in xs (neg: not in) -/
def fSIn (neg : Bool) : D → D → Store → Rs D := fun x y st => match seqOf y st with
  | some xs => if shD x = true ∧ dOks xs = true then .ok (.bl (if neg = true then !xs.any fun z => eqD z x else xs.any fun z => eqD z x)) st else .no
  | none => .no
theorem sIn_ok {neg : Bool} {σ : L2.St} {ρ : Mp} {st : Store} {H : Hp} {x y : D} {vx vy : V} {Q : VK} (r : R X.K ρ st H) (rx : RelD X.K ρ st.length H x vx) (ry : RelD X.K ρ st.length H y vy) (o : Out X.K (reD X.K) W σ ρ st.length H Q (fSIn neg x y st)) : rInA X.K neg vx vy H Q := by
  unfold fSIn at o
  cases q : seqOf y st with
  | none => rw [q] at o; exact o.elim
  | some xs =>
    rw [q] at o
    simp only at o
    split at o
    · rename_i h
      obtain ⟨p, us, rfl, hs, ru⟩ := seqOf_rel r ry q
      have hd : DpAll X.K H us (toPys xs) := dps_of xs h.2 ru
      refine ⟨toPy x, toPys xs, dp_of x (shD_ok h.1) rx, ?_, shaped_of h.1, canLays_of xs h.2, o.here r (by simp only [any_toPys]; simp [reD, RelD])⟩
      rcases hs with hs | hs
      · exact .inr (.lst hs hd)
      · exact .inl (.tup (SqT.of hs) hd)
    · exact o.elim
theorem opS_sin (hu : X.A.units + 65 < cLine) : OpS X (compareOp .In) (fSIn false) := ⟨_, op_inA hu, fun W σ ρ st H x y vx vy Q r rx ry o => sIn_ok r rx ry o⟩
theorem opS_snotin (hu : X.A.units + 65 < cLine) : OpS X (compareOp .NotIn) (fSIn true) := ⟨_, op_notInA hu, fun W σ ρ st H x y vx vy Q r rx ry o => sIn_ok r rx ry o⟩
theorem hu5_of {A : Around} {k : Nat} (hr : Room k A) : A.units + 65 < cLine := by have := hr.un; omega

/-! ### l.extend(e), e a list that this expression makes -/
noncomputable def mExtF (mo : SE) (na : SA) : SE := fun τ st => (mo τ st).bind fun ob st1 => match listOf ob st1 with
  | some _ => (na τ st1).bind fun ds st2 => onLoc ob st2 fun xs => if szFits (xs.length + ds.length) = true then some (.non, xs ++ ds) else none
  | none => .no
theorem ev_extF (ho : EvE X W o mo) (ha : EvF X W e na)
    (hbase : attributeBase o "extend" X.env (eval o X.env) = eval o X.env := by rfl)
    (hfew : ((backTo cpos (starEach (e :: []) X.env)).all (fun x => !x.1) && (backToKw cpos (keywordEach [] X.env)).all (fun x => x.1.isSome)
      && decide ((e :: []).length + ([] : List Keyword).length + (if ([] : List Keyword).isEmpty then 0 else 1) < 30)) = true := by rfl)
    (hline : (apos.endLine == cpos.line) = true := by rfl) (hs : starEach (e :: []) X.env = (false, eval e X.env) :: starEach [] X.env := by rfl) (hplain : (backTo cpos (starEach [] X.env)).any (·.1) = false := by rfl) :
    EvE X W (.Call (.Attribute o "extend" apos) [e] [] cpos) (mExtF mo na) := by
  refine PE.imp (pe_bm PySem.F.plainAttrs_list PySem.F.slot_list_extend rfl mt_extend ho (pa_cons ha pa_nil hs) hbase hfew hline hs hplain) fun σ H Q ⟨ρ, τ, st, r0, en, oo⟩ => tM.bind r0 en oo fun ob st1 ρ1 H1 v e1 r1 en1 q o1 => ?_
  cases hl : listOf ob st1 with
  | none => rw [hl] at o1; exact o1.elim
  | some xs =>
    rw [hl] at o1
    obtain ⟨p, us, rfl, hs, _⟩ := listOf_rel r1 q hl
    refine ⟨.inl ⟨rfl, us, hs⟩, tM.bind r1 en1 o1 fun ds st2 ρ2 H2 vy e2 r2 en2 q2 o2 => ?_⟩
    obtain ⟨b', vs, rfl, h0, hb', rh, rv⟩ := q2
    obtain ⟨n, xs, d', ys, rfl, e1', e2', e3'⟩ := onLoc_ok (fun z => by rw [z] at o2; exact o2)
    rw [e3'] at o2
    split at e2'
    · rename_i hz
      cases e2'
      obtain ⟨hln, e, us', hv, ru⟩ := loc_rel r2 (q.mono e2 r1) e1'
      refine ⟨_, b', us', vs, e, rfl, hv, hb', by rw [ru.len, rv.len]; exact szFits_iff.mp hz, ?_⟩
      exact o2.write r2 hln (ru.append (RelDs.show' _ rv)) (by simp [RelD])
    · cases e2'

/-! ### {k: v} -/
def mDisp1 (mk mv : SE) : SE := fun τ st => (mk τ (st ++ [.dk []])).bind fun x st1 => (mv τ st1).bind fun y st2 => match keyOf x, st2[st.length]? with
  | some q, some (.dk []) => .ok (.loc st.length) (st2.set st.length (.dk [(q, y)]))
  | _, _ => .no
theorem ev_disp1 (hk : EvE X W k mk) (hv : EvE X W value mv) : EvE X W (.Dict [some k] [value] pos) (mDisp1 mk mv) := by
  refine PE.imp (pe_disp (pps_cons hk hv pps_nil) rfl rfl (by simp) (by simp)) fun σ H Q ⟨ρ, τ, st, r0, en, o⟩ => fun p hp => ?_
  have r1 : R X.K (put ρ st.length p) (st ++ [.dk []]) (upd H p (.dK [])) := r0.alloc hp ⟨[], upd_same, .nil⟩
  have ex : Ext ρ st.length H (put ρ st.length p) (st ++ [O.dk []]).length (upd H p (.dK [])) := by
    rw [List.length_append, List.length_singleton]; exact put_ext hp
  have en1 := en.mono ex r0
  refine tM.bind r1 en1 (Out.shift o r0 ex r1) fun x st1 ρ1 H1 vx e1 r1' en1' q1 o1 => ?_
  refine tM.bind r1' en1' o1 fun y st2 ρ2 H2 vy e2 r2 en2 q2 o2 => ?_
  have hl : st.length < (st ++ [O.dk []]).length := by simp
  have hl1 : st.length < st1.length := Nat.lt_of_lt_of_le hl e1.le
  have ea : ρ2.at' st.length = p := by rw [e2.old _ hl1, e1.old _ hl, put_at]
  show H2 p = some (.dK []) ∧ ∃ kvs : List (Key × V), [(vx, vy)] = kvs.map (fun kv => (kV kv.1, kv.2)) ∧ kvs.length ≤ 15 ∧ Q (.ref p) (upd H2 p (.dK (mergeK [] kvs)))
  cases ek : keyOf x with
  | none => rw [ek] at o2; exact o2.elim
  | some q =>
    cases es : st2[st.length]? with
    | none => rw [ek, es] at o2; exact o2.elim
    | some ob =>
      rw [ek, es] at o2
      cases ob with
      | lst _ => exact o2.elim
      | dt _ => exact o2.elim
      | dk kvs =>
        cases kvs with
        | cons _ _ => exact o2.elim
        | nil =>
          simp only at o2
          obtain ⟨ws, hw, hpd⟩ := r2.obj _ _ es
          cases hpd
          rw [ea] at hw
          refine ⟨hw, [(q, vy)], by rw [keyOf_rel q1 ek]; rfl, by simp, ?_⟩
          have hl2 : st.length < st2.length := (List.getElem?_eq_some_iff.mp es).1
          have ex2 := r2.set_ext (u := .dK [(q, vy)]) hl2
          show Q (.ref p) (upd H2 p (.dK [(q, vy)]))
          rw [← ea]
          refine o2 ρ2 _ _ ?_ (r2.set hl2 ⟨[(q, vy)], upd_same, .cons ⟨rfl, RelD.mono q2 ex2 r2⟩ .nil⟩) ?_
          · rw [List.length_set]; exact ex2
          · simp only [reD, RelD]; rw [List.length_set]; exact ⟨trivial, hl2⟩
@[simp] theorem x_mDisp1 {σ : En} {st : Store} : mDisp1 mk mv σ st = (mk σ (st ++ [.dk []])).bind fun x st1 => (mv σ st1).bind fun y st2 => match keyOf x, st2[st.length]? with
  | some q, some (.dk []) => .ok (.loc st.length) (st2.set st.length (.dk [(q, y)]))
  | _, _ => .no := rfl
@[simp] theorem x_mExtF {σ : En} {st : Store} : mExtF mo na σ st = (mo σ st).bind fun ob st1 => match listOf ob st1 with
  | some _ => (na σ st1).bind fun ds st2 => onLoc ob st2 fun xs => if szFits (xs.length + ds.length) = true then some (.non, xs ++ ds) else none
  | none => .no := rfl
end
end Fx

set_option Elab.async false
set_option linter.all false
set_option maxRecDepth 100000
set_option maxHeartbeats 4000000
namespace Fx
open PySem L2
/-! ### leading words, in plain Lean -/
abbrev Ent := Nat × List Int
section
variable (s : Int → Nat → Nat) (Ls : List Int)
def vw (x : Nat) (w : List Int) (F : List Ent) (i : Int) : List Ent := if s i x ∈ F.map (·.1) then F else F ++ [(s i x, w ++ [i])]
def expE (F : List Ent) (e : Ent) : List Ent := Ls.foldl (vw s e.1 e.2) F
def lbf : Nat → Nat → List Ent → List Ent
  | 0, _, F => F
  | n + 1, k, F => match F[k]? with
    | none => F
    | some e => lbf n (k + 1) (expE s Ls F e)
def lead (d x : Nat) : List Ent := lbf s Ls d 0 [(x, [])]
def nd (x : Nat) (w : List Int) : Nat := w.foldl (fun y i => s i y) x
def addW (x : Nat) (F : List Ent) (w : List Int) : List Ent := if nd s x w ∈ F.map (·.1) then F else F ++ [(nd s x w, w)]
def news (x : Nat) : List Ent → List (List Int) → List Ent
  | _, [] => []
  | F, w :: V => if nd s x w ∈ F.map (·.1) then news x F V else (nd s x w, w) :: news x (F ++ [(nd s x w, w)]) V
def blk (w : List Int) : List (List Int) := Ls.map fun i => w ++ [i]
end
variable {s : Int → Nat → Nat} {Ls : List Int} {x0 d : Nat}
theorem nd_snoc {x : Nat} {w : List Int} {i : Int} : nd s x (w ++ [i]) = s i (nd s x w) := by simp [nd]
theorem add_news : ∀ (V : List (List Int)) (F : List Ent), V.foldl (addW s x0) F = F ++ news s x0 F V
  | [], F => by simp [news]
  | w :: V, F => by
    rw [List.foldl_cons, add_news V, addW, news]
    split <;> simp
theorem vw_app {x : Nat} {w : List Int} : ∀ (l : List Int) (F : List Ent), ∃ R, l.foldl (vw s x w) F = F ++ R
  | [], F => ⟨[], by simp⟩
  | i :: l, F => by
    rw [List.foldl_cons]
    obtain ⟨R, h⟩ := vw_app (x := x) (w := w) l (vw s x w F i)
    rw [h, vw]
    split
    · exact ⟨R, rfl⟩
    · exact ⟨(s i x, w ++ [i]) :: R, by simp⟩
theorem exp_app (F : List Ent) (e : Ent) : ∃ R, expE s Ls F e = F ++ R := vw_app _ _
theorem mem_app {F R : List Ent} {y : Nat} (h : y ∈ F.map (·.1)) : y ∈ (F ++ R).map (·.1) := by rw [List.map_append]; exact List.mem_append_left _ h
theorem vw_keep {x y : Nat} {w : List Int} {l : List Int} {F : List Ent} (h : y ∈ F.map (·.1)) : y ∈ (l.foldl (vw s x w) F).map (·.1) := by
  obtain ⟨R, e⟩ := vw_app (s := s) (x := x) (w := w) l F
  rw [e]; exact mem_app h
theorem vw_has {x : Nat} {w : List Int} : ∀ {l : List Int} {F : List Ent} {i : Int}, i ∈ l → s i x ∈ (l.foldl (vw s x w) F).map (·.1)
  | j :: l, F, i, h => by
    rw [List.foldl_cons]
    rcases List.mem_cons.mp h with rfl | h
    · refine vw_keep ?_
      unfold vw
      split
      · assumption
      · simp
    · exact vw_has h
theorem vw_skip {x : Nat} {w : List Int} : ∀ {l : List Int} {F : List Ent}, (∀ i ∈ l, s i x ∈ F.map (·.1)) → l.foldl (vw s x w) F = F
  | [], F, _ => rfl
  | i :: l, F, h => by
    rw [List.foldl_cons, show vw s x w F i = F from if_pos (h i List.mem_cons_self)]
    exact vw_skip fun j hj => h j (List.mem_cons_of_mem _ hj)
theorem blk_fold {w : List Int} : ∀ (l : List Int) (H : List Ent), (l.map fun i => w ++ [i]).foldl (addW s x0) H = l.foldl (vw s (nd s x0 w) w) H
  | [], H => rfl
  | i :: l, H => by
    rw [List.map_cons, List.foldl_cons, List.foldl_cons, blk_fold l]
    congr 1
    rw [addW, vw, nd_snoc]
theorem exp_level : ∀ (V : List (List Int)) (F H : List Ent), (∀ y ∈ F.map (·.1), ∀ i ∈ Ls, s i y ∈ H.map (·.1)) →
    (V.flatMap (blk Ls)).foldl (addW s x0) H = (news s x0 F V).foldl (expE s Ls) H
  | [], F, H, _ => rfl
  | w :: V, F, H, h => by
    rw [List.flatMap_cons, List.foldl_append, blk, blk_fold, news]
    split
    · rename_i c
      rw [vw_skip (h _ c)]
      exact exp_level V F H h
    · rw [List.foldl_cons]
      refine exp_level V _ _ fun y hy i hi => ?_
      rw [List.map_append, List.mem_append] at hy
      rcases hy with hy | hy
      · exact vw_keep (h y hy i hi)
      · simp only [List.map_cons, List.map_nil, List.mem_singleton] at hy
        subst hy
        exact vw_has hi
theorem exps_keep {y : Nat} : ∀ {E F : List Ent}, y ∈ F.map (·.1) → y ∈ (E.foldl (expE s Ls) F).map (·.1)
  | [], F, h => h
  | e :: E, F, h => by rw [List.foldl_cons]; exact exps_keep (vw_keep h)
theorem exps_has : ∀ {E F : List Ent} {e : Ent} {i : Int}, e ∈ E → i ∈ Ls → s i e.1 ∈ (E.foldl (expE s Ls) F).map (·.1)
  | a :: E, F, e, i, he, hi => by
    rw [List.foldl_cons]
    rcases List.mem_cons.mp he with rfl | he
    · exact exps_keep (vw_has hi)
    · exact exps_has he hi
theorem lbf_level : ∀ (E P R : List Ent) (n : Nat), lbf s Ls (E.length + n) P.length (P ++ (E ++ R)) = lbf s Ls n (P.length + E.length) (E.foldl (expE s Ls) (P ++ (E ++ R)))
  | [], P, R, n => by simp
  | e :: E, P, R, n => by
    have e1 : (P ++ (e :: E ++ R))[P.length]? = some e := by simp
    rw [List.length_cons, show E.length + 1 + n = (E.length + n) + 1 by omega, lbf, e1]
    simp only
    obtain ⟨R', h⟩ := exp_app (s := s) (Ls := Ls) (P ++ (e :: E ++ R)) e
    rw [List.foldl_cons, h]
    have h2 := lbf_level E (P ++ [e]) (R ++ R') n
    simp only [List.length_append, List.length_cons, List.length_nil, List.append_assoc, List.cons_append, List.nil_append] at h2 ⊢
    rw [h2]
    congr 1
    omega
/-! what holds of the entries -/
structure Wok (s : Int → Nat → Nat) (Ls : List Int) (x0 d : Nat) (F : List Ent) : Prop where
  nod : (F.map (·.1)).Nodup
  lt : ∀ e ∈ F, e.1 < d
  at' : ∀ e ∈ F, nd s x0 e.2 = e.1
  let' : ∀ e ∈ F, ∀ i ∈ e.2, i ∈ Ls
  len : ∀ e ∈ F, e.2.length < F.length
  pre : ∀ e ∈ F, e.2 ≠ [] → ∃ a ∈ F, a.2 = e.2.dropLast
theorem Wok.card {F : List Ent} (h : Wok s Ls x0 d F) : F.length ≤ d := by
  have := nodup_len (D := List.range d) h.nod fun x hx => by
    obtain ⟨e, he, rfl⟩ := List.mem_map.mp hx
    exact List.mem_range.mpr (h.lt e he)
  simpa using this
theorem Wok.one (h : x0 < d) : Wok s Ls x0 d [(x0, [])] where
  nod := by simp
  lt := fun e he => by rw [List.mem_singleton] at he; subst he; exact h
  at' := fun e he => by rw [List.mem_singleton] at he; subst he; rfl
  let' := fun e he => by rw [List.mem_singleton] at he; subst he; simp
  len := fun e he => by rw [List.mem_singleton] at he; subst he; simp
  pre := fun e he => by rw [List.mem_singleton] at he; subst he; simp
theorem Wok.vw {F : List Ent} (h : Wok s Ls x0 d F) (hs : ∀ i ∈ Ls, ∀ x, x < d → s i x < d) {e : Ent} (he : e ∈ F) {i : Int} (hi : i ∈ Ls) : Wok s Ls x0 d (vw s e.1 e.2 F i) := by
  unfold Fx.vw
  split
  · exact h
  · rename_i c
    have new : ∀ a ∈ F ++ [(s i e.1, e.2 ++ [i])], a ∈ F ∨ a = (s i e.1, e.2 ++ [i]) := fun a ha => by simpa using ha
    refine ⟨?_, fun a ha => ?_, fun a ha => ?_, fun a ha => ?_, fun a ha => ?_, fun a ha hn => ?_⟩
    · rw [List.map_append]; exact nodup_snoc h.nod c
    · rcases new a ha with ha | rfl
      · exact h.lt a ha
      · exact hs i hi _ (h.lt e he)
    · rcases new a ha with ha | rfl
      · exact h.at' a ha
      · rw [nd_snoc, h.at' e he]
    · rcases new a ha with ha | rfl
      · exact h.let' a ha
      · intro j hj
        rcases List.mem_append.mp hj with hj | hj
        · exact h.let' e he j hj
        · rw [List.mem_singleton] at hj; subst hj; exact hi
    · rcases new a ha with ha | rfl
      · have := h.len a ha; simp; omega
      · have := h.len e he; simp; omega
    · rcases new a ha with ha | rfl
      · obtain ⟨b, hb, e2⟩ := h.pre a ha hn
        exact ⟨b, List.mem_append_left _ hb, e2⟩
      · exact ⟨e, List.mem_append_left _ he, by simp⟩
theorem vw_mem {x : Nat} {w : List Int} {F : List Ent} {i : Int} {a : Ent} (h : a ∈ F) : a ∈ vw s x w F i := by
  unfold vw
  split
  · exact h
  · exact List.mem_append_left _ h
theorem Wok.fold {e : Ent} (hs : ∀ i ∈ Ls, ∀ x, x < d → s i x < d) : ∀ (l : List Int) {F : List Ent}, Wok s Ls x0 d F → e ∈ F → (∀ i ∈ l, i ∈ Ls) → Wok s Ls x0 d (l.foldl (Fx.vw s e.1 e.2) F)
  | [], _, h, _, _ => h
  | i :: l, _, h, he, hl => Wok.fold hs l (h.vw hs he (hl i List.mem_cons_self)) (vw_mem he) fun j hj => hl j (List.mem_cons_of_mem _ hj)
theorem Wok.exp {F : List Ent} (h : Wok s Ls x0 d F) (hs : ∀ i ∈ Ls, ∀ x, x < d → s i x < d) {e : Ent} (he : e ∈ F) : Wok s Ls x0 d (expE s Ls F e) := h.fold hs Ls he fun _ h => h
/-- all places ahead of k are done -/
def Done (s : Int → Nat → Nat) (Ls : List Int) (k : Nat) (F : List Ent) : Prop := ∀ j, j < k → ∀ e, F[j]? = some e → ∀ i ∈ Ls, s i e.1 ∈ F.map (·.1)
theorem Wok.lbf (hs : ∀ i ∈ Ls, ∀ x, x < d → s i x < d) : ∀ (n k : Nat) {F : List Ent}, Wok s Ls x0 d F → Done s Ls k F → d ≤ n + k → Wok s Ls x0 d (lbf s Ls n k F) ∧ (∀ e ∈ lbf s Ls n k F, ∀ i ∈ Ls, s i e.1 ∈ (lbf s Ls n k F).map (·.1))
  | 0, k, F, h, hd, hk => by
    refine ⟨h, fun e (he : e ∈ F) => ?_⟩
    obtain ⟨j, hj, rfl⟩ := List.getElem_of_mem he
    have := h.card
    exact hd j (by omega) _ (List.getElem?_eq_getElem hj)
  | n + 1, k, F, h, hd, hk => by
    rw [Fx.lbf]
    cases e1 : F[k]? with
    | none =>
      refine ⟨h, fun e (he : e ∈ F) => ?_⟩
      obtain ⟨j, hj, rfl⟩ := List.getElem_of_mem he
      have := List.getElem?_eq_none_iff.mp e1
      exact hd j (by omega) _ (List.getElem?_eq_getElem hj)
    | some e =>
      simp only
      refine Wok.lbf hs n (k + 1) (h.exp hs (List.mem_of_getElem? e1)) (fun j hj a ha i hi => ?_) (by omega)
      obtain ⟨R, hR⟩ := exp_app (s := s) (Ls := Ls) F e
      have hl := (List.getElem?_eq_some_iff.mp e1).1
      rw [hR, List.getElem?_append_left (by omega)] at ha
      by_cases c : j = k
      · subst c
        rw [e1] at ha
        cases ha
        exact vw_has hi
      · rw [hR]; exact mem_app (hd j (by omega) a ha i hi)
theorem lead_ok (hs : ∀ i ∈ Ls, ∀ x, x < d → s i x < d) (h : x0 < d) : Wok s Ls x0 d (lead s Ls d x0) ∧ (∀ e ∈ lead s Ls d x0, ∀ i ∈ Ls, s i e.1 ∈ (lead s Ls d x0).map (·.1)) :=
  Wok.lbf hs d 0 (Wok.one h) (fun j hj => absurd hj (Nat.not_lt_zero j)) (by omega)
theorem lbf_get {y : Nat} : ∀ (n k : Nat) {F : List Ent}, y ∈ F.map (·.1) → y ∈ (lbf s Ls n k F).map (·.1)
  | 0, _, _, h => h
  | n + 1, k, F, h => by
    rw [lbf]
    split
    · exact h
    · exact lbf_get n (k + 1) (vw_keep h)
theorem lead_x0 : x0 ∈ (lead s Ls d x0).map (·.1) := lbf_get d 0 (by simp)
/-- the state of the law's search by all words -/
structure Lvl (s : Int → Nat → Nat) (Ls : List Int) (x0 d : Nat) (F : List Ent) (W : List (List Int)) : Prop where
  ok : Wok s Ls x0 d (F ++ news s x0 F W)
  exp : ∀ y ∈ F.map (·.1), ∀ i ∈ Ls, s i y ∈ (F ++ news s x0 F W).map (·.1)
  eq : lead s Ls d x0 = lbf s Ls (d - F.length) F.length (F ++ news s x0 F W)
theorem Lvl.zero (h : x0 < d) : Lvl s Ls x0 d [] [[]] := by
  have e : news s x0 [] [[]] = [(x0, [])] := by simp [news, nd]
  refine ⟨by rw [e]; exact Wok.one h, fun y hy => by simp at hy, by rw [e]; rfl⟩
theorem Wok.exps (hs : ∀ i ∈ Ls, ∀ x, x < d → s i x < d) : ∀ (E : List Ent) {F : List Ent}, Wok s Ls x0 d F → (∀ e ∈ E, e ∈ F) → Wok s Ls x0 d (E.foldl (expE s Ls) F)
  | [], _, h, _ => h
  | e :: E, F, h, he => by
    refine Wok.exps hs E (h.exp hs (he e List.mem_cons_self)) fun a ha => ?_
    obtain ⟨R, hR⟩ := exp_app (s := s) (Ls := Ls) F e
    rw [hR]; exact List.mem_append_left _ (he a (List.mem_cons_of_mem _ ha))
theorem Lvl.next (hs : ∀ i ∈ Ls, ∀ x, x < d → s i x < d) {F : List Ent} {W : List (List Int)} (h : Lvl s Ls x0 d F W) : Lvl s Ls x0 d (F ++ news s x0 F W) (W.flatMap (blk Ls)) := by
  obtain ⟨E, hE⟩ : ∃ E, E = news s x0 F W := ⟨_, rfl⟩
  have h1 := exp_level (s := s) (Ls := Ls) (x0 := x0) W F (F ++ news s x0 F W) h.exp
  rw [add_news] at h1
  have hc := h.ok.card
  have hq := h.eq
  have hok := h.ok
  have hex := h.exp
  rw [← hE] at h1 hc hq hok hex ⊢
  have hk : F.length + E.length ≤ d := by simpa using hc
  have h2 := lbf_level (s := s) (Ls := Ls) E F [] (d - F.length - E.length)
  rw [show E.length + (d - F.length - E.length) = d - F.length by omega, List.append_nil] at h2
  refine ⟨?_, fun y hy i hi => ?_, ?_⟩
  · rw [h1]; exact hok.exps hs E fun e he => List.mem_append_right _ he
  · rw [h1]
    rw [List.map_append, List.mem_append] at hy
    rcases hy with hy | hy
    · exact exps_keep (hex y hy i hi)
    · obtain ⟨e, he, rfl⟩ := List.mem_map.mp hy
      exact exps_has he hi
  · rw [hq, h2, h1, List.length_append]
    congr 1
    omega
theorem news_nil : ∀ (W : List (List Int)) {F : List Ent}, (∀ w ∈ W, nd s x0 w ∈ F.map (·.1)) → news s x0 F W = []
  | [], _, _ => rfl
  | w :: W, F, h => by
    rw [news, if_pos (h w List.mem_cons_self)]
    exact news_nil W fun v hv => h v (List.mem_cons_of_mem _ hv)
theorem Wok.left {F R : List Ent} (h : Wok s Ls x0 d (F ++ R)) : (F.map (·.1)).Nodup ∧ ∀ e ∈ F, e.1 < d := by
  have := h.nod
  rw [List.map_append] at this
  exact ⟨(List.nodup_append.mp this).1, fun e he => h.lt e (List.mem_append_left _ he)⟩
theorem Lvl.stop (hs : ∀ i ∈ Ls, ∀ x, x < d → s i x < d) {F : List Ent} {W : List (List Int)} (h : Lvl s Ls x0 d F W) (hl : d ≤ F.length) : F = lead s Ls d x0 := by
  have hc := h.ok.card
  have e : news s x0 F W = [] := by
    rw [List.length_append] at hc
    exact List.length_eq_zero_iff.mp (by omega)
  rw [h.eq, e, show d - F.length = 0 by omega, List.append_nil]; rfl
theorem Lvl.grow {F : List Ent} {W : List (List Int)} (h : Lvl s Ls x0 d F W) (hl : F.length < (lead s Ls d x0).length) : F.length < (F ++ news s x0 F W).length := by
  rw [List.length_append]
  by_cases c : (news s x0 F W).length = 0
  · have e := h.eq
    rw [List.length_eq_zero_iff.mp c, List.append_nil] at e
    have : lbf s Ls (d - F.length) F.length F = F := by
      cases d - F.length with
      | zero => rfl
      | succ n => rw [lbf, List.getElem?_eq_none (Nat.le_refl _)]
    rw [this] at e
    rw [e] at hl
    omega
  · omega
/-- the word of a sheet -/
def wordOf (F : List Ent) (y : Nat) : List Int := ((F.find? fun e => decide (e.1 = y)).map (·.2)).getD []
theorem find_mem {F : List Ent} {y : Nat} (h : y ∈ F.map (·.1)) : ∃ e ∈ F, (F.find? fun e => decide (e.1 = y)) = some e ∧ e.1 = y := by
  cases q : F.find? fun e => decide (e.1 = y) with
  | none =>
    obtain ⟨e, he, rfl⟩ := List.mem_map.mp h
    have := List.find?_eq_none.mp q e he
    simp at this
  | some e => exact ⟨e, List.mem_of_find?_eq_some q, rfl, by simpa using List.find?_some q⟩
theorem wordOf_mem {F : List Ent} {y : Nat} (h : y ∈ F.map (·.1)) : (y, wordOf F y) ∈ F := by
  obtain ⟨e, he, e1, e2⟩ := find_mem h
  rw [wordOf, e1]
  subst e2
  exact he
theorem wordOf_of {F : List Ent} (hn : (F.map (·.1)).Nodup) {e : Ent} (he : e ∈ F) : wordOf F e.1 = e.2 := by
  have hm := wordOf_mem (List.mem_map.mpr ⟨e, he, rfl⟩ : e.1 ∈ F.map (·.1))
  obtain ⟨a, ha⟩ : ∃ a : Ent, a = (e.1, wordOf F e.1) := ⟨_, rfl⟩
  have hk : a.1 = e.1 := by rw [ha]
  rw [← ha] at hm
  have key : ∀ (F : List Ent), (F.map (·.1)).Nodup → ∀ a ∈ F, ∀ b ∈ F, a.1 = b.1 → a = b := by
    intro F
    induction F with
    | nil => intro _ a ha; cases ha
    | cons c F ih =>
      intro hn a ha b hb e
      rw [List.map_cons, List.nodup_cons] at hn
      rcases List.mem_cons.mp ha with ha | ha
      · rcases List.mem_cons.mp hb with hb | hb
        · rw [ha, hb]
        · exact absurd (List.mem_map.mpr ⟨b, hb, by rw [← e, ha]⟩) hn.1
      · rcases List.mem_cons.mp hb with hb | hb
        · exact absurd (List.mem_map.mpr ⟨a, ha, by rw [e, hb]⟩) hn.1
        · exact ih hn.2 a ha b hb e
  have := key F hn a hm e he hk
  rw [← this, ha]
end Fx

set_option Elab.async false
set_option linter.all false
set_option maxRecDepth 100000
set_option maxHeartbeats 4000000
namespace Fx
open PySem L2
variable {d : Nat}
/-! ### connected systems, in plain Lean -/
section
variable {ps : List (Pm d)}
theorem vis_keep {x y : Nat} {σ : List Nat × List Nat} {p : Pm d} (h : y ∈ σ.1) : y ∈ (vis x σ p).1 := by
  unfold vis
  split
  · exact h
  · exact List.mem_append_left _ h
theorem vis_has {x : Nat} {σ : List Nat × List Nat} {p : Pm d} : p.f x ∈ (vis x σ p).1 := by
  unfold vis
  split
  · assumption
  · simp
theorem visf_keep {x y : Nat} : ∀ (qs : List (Pm d)) {σ : List Nat × List Nat}, y ∈ σ.1 → y ∈ (qs.foldl (vis x) σ).1
  | [], _, h => h
  | p :: qs, _, h => visf_keep qs (vis_keep h)
theorem visf_has {x : Nat} {p : Pm d} : ∀ (qs : List (Pm d)) {σ : List Nat × List Nat}, p ∈ qs → p.f x ∈ (qs.foldl (vis x) σ).1
  | q :: qs, σ, h => by
    rw [List.foldl_cons]
    rcases List.mem_cons.mp h with rfl | h
    · exact visf_keep qs vis_has
    · exact visf_has qs h
theorem bfs_keep {y : Nat} : ∀ (n k : Nat) {σ : List Nat × List Nat}, y ∈ σ.1 → y ∈ (bfs ps n k σ).1
  | 0, _, _, h => h
  | n + 1, k, σ, h => by
    rw [bfs]
    split
    · exact h
    · exact bfs_keep n (k + 1) (visf_keep ps h)
theorem bfs_done : ∀ (n k : Nat) {σ : List Nat × List Nat}, Inv2 d σ → (∀ j, j < k → ∀ y, σ.2[j]? = some y → ∀ p ∈ ps, p.f y ∈ σ.1) → d ≤ n + k → ∀ y ∈ (bfs ps n k σ).2, ∀ p ∈ ps, p.f y ∈ (bfs ps n k σ).1
  | 0, k, σ, h, hd, hk => by
    intro y (hy : y ∈ σ.2)
    obtain ⟨j, hj, rfl⟩ := List.getElem_of_mem hy
    have := h.len2
    exact hd j (by omega) _ (List.getElem?_eq_getElem hj)
  | n + 1, k, σ, h, hd, hk => by
    rw [bfs]
    cases e1 : σ.2[k]? with
    | none =>
      intro y (hy : y ∈ σ.2)
      obtain ⟨j, hj, rfl⟩ := List.getElem_of_mem hy
      have := List.getElem?_eq_none_iff.mp e1
      exact hd j (by omega) _ (List.getElem?_eq_getElem hj)
    | some x =>
      simp only
      refine bfs_done n (k + 1) (h.fold (h.lt x (h.sub x (List.mem_of_getElem? e1))) ps) (fun j hj y hy p hp => ?_) (by omega)
      by_cases c : j = k
      · subst c
        rw [fold_get ps e1] at hy
        cases hy
        exact visf_has ps hp
      · have hl := (List.getElem?_eq_some_iff.mp e1).1
        rw [fold_get ps (List.getElem?_eq_getElem (show j < σ.2.length by omega))] at hy
        exact visf_keep ps (hd j (by omega) y (by rw [List.getElem?_eq_getElem (show j < σ.2.length by omega)]; exact hy) p hp)
theorem visf_pred {P : Nat → Prop} {x : Nat} (hx : P x) : ∀ (qs : List (Pm d)) {σ : List Nat × List Nat}, (∀ p ∈ qs, ∀ y, P y → P (p.f y)) → (∀ y ∈ σ.2, P y) → ∀ y ∈ (qs.foldl (vis x) σ).2, P y
  | [], _, _, h => h
  | p :: qs, σ, hP, h => by
    rw [List.foldl_cons]
    refine visf_pred hx qs (fun q hq => hP q (List.mem_cons_of_mem _ hq)) fun y hy => ?_
    unfold vis at hy
    split at hy
    · exact h y hy
    · rcases List.mem_append.mp hy with hy | hy
      · exact h y hy
      · rw [List.mem_singleton] at hy; subst hy; exact hP p List.mem_cons_self x hx
theorem bfs_pred {P : Nat → Prop} (hP : ∀ p ∈ ps, ∀ y, P y → P (p.f y)) : ∀ (n k : Nat) {σ : List Nat × List Nat}, (∀ y ∈ σ.2, P y) → ∀ y ∈ (bfs ps n k σ).2, P y
  | 0, _, _, h => h
  | n + 1, k, σ, h => by
    rw [bfs]
    split
    · exact h
    · rename_i x hx
      exact bfs_pred hP n (k + 1) (visf_pred (h x (List.mem_of_getElem? hx)) ps hP h)
theorem visf_same {x : Nat} : ∀ (qs : List (Pm d)) {σ : List Nat × List Nat}, σ.1 = σ.2 → (qs.foldl (vis x) σ).1 = (qs.foldl (vis x) σ).2
  | [], _, h => h
  | p :: qs, σ, h => by
    rw [List.foldl_cons]
    refine visf_same qs ?_
    unfold vis
    split
    · exact h
    · simp only [h]
theorem bfs_same : ∀ (n k : Nat) {σ : List Nat × List Nat}, σ.1 = σ.2 → (bfs ps n k σ).1 = (bfs ps n k σ).2
  | 0, _, _, h => h
  | n + 1, k, σ, h => by
    rw [bfs]
    split
    · exact h
    · exact bfs_same n (k + 1) (visf_same ps h)
/-- the sheets led to from 0 -/
def reach0 (ps : List (Pm d)) : List Nat := (bfs ps d 0 ([0], [0])).2
theorem reach0_mem (hd : 0 < d) : 0 ∈ reach0 ps := by
  unfold reach0
  rw [← bfs_same d 0 rfl]
  exact bfs_keep d 0 (by simp)
theorem inv0 (hd : 0 < d) : Inv2 d (([0], [0]) : List Nat × List Nat) := ⟨by simp, by simp [hd], by simp, by simp⟩
theorem reach0_step (hd : 0 < d) {x : Nat} (hx : x ∈ reach0 ps) {p : Pm d} (hp : p ∈ ps) : p.f x ∈ reach0 ps := by
  have := bfs_done (ps := ps) d 0 (inv0 hd) (fun j hj => absurd hj (Nat.not_lt_zero j)) (by omega) x hx p hp
  rw [bfs_same d 0 rfl] at this
  exact this
theorem reach0_pred {P : Nat → Prop} (h0 : P 0) (hP : ∀ p ∈ ps, ∀ y, P y → P (p.f y)) : ∀ y ∈ reach0 ps, P y := bfs_pred hP d 0 fun y hy => by
  have : y = 0 := by simpa using hy
  subst this; exact h0
theorem out1_mono (t : List Nat × List (List Nat)) (x : Nat) : t.2.length ≤ (out1 ps t x).2.length ∧ ((out1 ps t x).2.length = t.2.length ↔ x ∈ t.1) ∧ (x ∈ t.1 → out1 ps t x = t) := by
  unfold out1
  split
  · rename_i h; exact ⟨Nat.le_refl _, ⟨fun _ => h, fun _ => rfl⟩, fun _ => rfl⟩
  · rename_i h; simp [h]
theorem out1_fold : ∀ (l : List Nat) (t : List Nat × List (List Nat)), t.2.length ≤ (l.foldl (out1 ps) t).2.length ∧ ((l.foldl (out1 ps) t).2.length = t.2.length ↔ ∀ x ∈ l, x ∈ t.1)
  | [], t => by simp
  | x :: l, t => by
    obtain ⟨h1, h2, h3⟩ := out1_mono (ps := ps) t x
    obtain ⟨i1, i2⟩ := out1_fold l (out1 ps t x)
    rw [List.foldl_cons]
    refine ⟨Nat.le_trans h1 i1, fun e => ?_, fun h => ?_⟩
    · have e1 : (out1 ps t x).2.length = t.2.length := by omega
      have hx := h2.mp e1
      rw [h3 hx] at i2 e
      intro y hy
      rcases List.mem_cons.mp hy with rfl | hy
      · exact hx
      · exact i2.mp e y hy
    · have hx := h x List.mem_cons_self
      rw [h3 hx] at i2 ⊢
      exact i2.mpr fun y hy => h y (List.mem_cons_of_mem _ hy)
theorem parts_iff (hd : 0 < d) : (parts ps).length = 1 ↔ ∀ x, x < d → x ∈ reach0 ps := by
  obtain ⟨n, rfl⟩ : ∃ n, d = n + 1 := ⟨d - 1, by omega⟩
  have e : List.range (n + 1) = 0 :: List.range' 1 n := by rw [List.range_eq_range', List.range'_succ]
  have e0 : out1 ps ([], []) 0 = ((bfs ps (n + 1) 0 ([0], [0])).1, [reach0 ps]) := by
    rw [out1, if_neg (by simp)]; rfl
  unfold parts
  rw [e, List.foldl_cons, e0]
  have h := (out1_fold (ps := ps) (List.range' 1 n) ((bfs ps (n + 1) 0 ([0], [0])).1, [reach0 ps])).2
  simp only [List.length_cons, List.length_nil, Nat.zero_add] at h
  rw [h, bfs_same (n + 1) 0 rfl]
  refine ⟨fun k x hx => ?_, fun k x hx => k x ?_⟩
  · by_cases c : x = 0
    · subst c; exact reach0_mem hd
    · exact k x (by rw [List.mem_range'_1]; omega)
  · rw [List.mem_range'_1] at hx; omega
theorem parts_zero {ps : List (Pm 0)} : parts ps = [] := rfl
/-- a sheet set that is closed both ways holds all sheets of a connected system, or none -/
theorem all_of_conn (hd : 0 < d) (hc : (parts ps).length = 1) {S : Nat → Prop} (hS : ∀ p ∈ ps, ∀ y, y < d → (S (p.f y) ↔ S y)) {x : Nat} (hx : x < d) (hx1 : S x) : ∀ y, y < d → S y := by
  have h := (parts_iff hd).mp hc
  have k := reach0_pred (ps := ps) (P := fun y => y < d ∧ (S y ↔ S 0)) ⟨hd, Iff.rfl⟩ fun p hp y ⟨h1, h2⟩ => ⟨p.lt h1, (hS p hp y h1).trans h2⟩
  have h0 : S 0 := (k x (h x hx)).2.mp hx1
  exact fun y hy => (k y (h y hy)).2.mpr h0
/-- not connected: a set that p leads into itself, with 0 and without another one -/
theorem not_conn {S : Nat → Prop} (hd : 0 < d) (h0 : S 0) (hS : ∀ p ∈ ps, ∀ y, S y → S (p.f y)) {x : Nat} (hx : x < d) (hx1 : ¬ S x) : (parts ps).length ≠ 1 := fun h =>
  hx1 (reach0_pred h0 hS x ((parts_iff hd).mp h x hx))
/-- a permutation with one ring -/
theorem conn_of {p : Pm d} (hd : 0 < d) (hp : p ∈ ps) {g : Nat → Nat} (hg : ∀ x, x < d → ∃ z, z < d ∧ g z = x) (h : ∀ z, z + 1 < d → p.f (g z) = g (z + 1)) (hl : p.f (g (d - 1)) = g 0) : (parts ps).length = 1 := by
  refine (parts_iff hd).mpr fun x hx => ?_
  have up : ∀ (n a : Nat), a + n < d → g a ∈ reach0 ps → g (a + n) ∈ reach0 ps := by
    intro n
    induction n with
    | zero => intro a _ h; exact h
    | succ n ih =>
      intro a ha h1
      have := reach0_step hd (ih a (by omega) h1) hp
      rw [h _ (by omega)] at this
      exact this
  obtain ⟨z0, hz0, e0⟩ := hg 0 hd
  have h1 := up (d - 1 - z0) z0 (by omega) (by rw [e0]; exact reach0_mem hd)
  rw [show z0 + (d - 1 - z0) = d - 1 by omega] at h1
  have h2 := reach0_step hd h1 hp
  rw [hl] at h2
  obtain ⟨z, hz, e⟩ := hg x hx
  have h3 := up z 0 (by omega) h2
  rw [Nat.zero_add, e] at h3
  exact h3
theorem conn_shift (hd : 0 < d) (hp : shift d hd ∈ ps) : (parts ps).length = 1 := by
  refine conn_of hd hp (g := id) (fun x hx => ⟨x, hx, rfl⟩) (fun z hz => ?_) ?_
  · show (if z < d then (z + 1) % d else z) = z + 1
    rw [if_pos (by omega), Nat.mod_eq_of_lt hz]
  · show (if d - 1 < d then (d - 1 + 1) % d else d - 1) = 0
    rw [if_pos (by omega), Nat.sub_add_cancel hd, Nat.mod_self]
/-- the shift renumbered -/
theorem conn_turned (hd : 0 < d) {f : Pm d} (hp : f.inv * (shift d hd * f) ∈ ps) : (parts ps).length = 1 := by
  refine conn_of hd hp (g := f.f) (fun x hx => ⟨f.b x, f.blt hx, f.fb x⟩) (fun z hz => ?_) ?_
  · show f.f (if f.b (f.f z) < d then (f.b (f.f z) + 1) % d else f.b (f.f z)) = f.f (z + 1)
    rw [f.bf, if_pos (by omega), Nat.mod_eq_of_lt hz]
  · show f.f (if f.b (f.f (d - 1)) < d then (f.b (f.f (d - 1)) + 1) % d else f.b (f.f (d - 1))) = f.f 0
    rw [f.bf, if_pos (by omega), Nat.sub_add_cancel hd, Nat.mod_self]
/-- one sheet more, left by all -/
def Pm.up (p : Pm d) : Pm (d + 1) := ⟨p.f, p.b, p.fb, p.bf, fun x h => p.out x (by omega)⟩
theorem Pm.up_list (p : Pm d) : p.up.list = p.list ++ [d] := by
  rw [Pm.list, List.range_succ, List.map_append]
  show List.map p.f (List.range d) ++ [p.f d] = _
  rw [p.out d (Nat.le_refl _)]; rfl
theorem not_conn_up (hd : 0 < d) : (parts (ps.map Pm.up)).length ≠ 1 := by
  refine not_conn (S := fun y => y < d) (by omega) hd (fun p hp y hy => ?_) (x := d) (by omega) (by omega)
  obtain ⟨q, hq, rfl⟩ := List.mem_map.mp hp
  exact q.lt hy
end
/-! ### letters -/
def ltrs (k : Nat) : List Int := (List.range k).flatMap fun (i : Nat) => [(i : Int) + 1, -((i : Int) + 1)]
theorem ltrs_succ (k : Nat) : ltrs (k + 1) = ltrs k ++ [(k : Int) + 1, -((k : Int) + 1)] := by simp [ltrs, List.range_succ]
theorem ltrs_len (k : Nat) : (ltrs k).length = 2 * k := by
  induction k with
  | zero => rfl
  | succ k ih => rw [ltrs_succ, List.length_append, ih]; simp; omega
theorem ltrs_mem {k : Nat} {i : Int} : i ∈ ltrs k ↔ 1 ≤ i.natAbs ∧ i.natAbs ≤ k := by
  induction k with
  | zero => simp [ltrs]; omega
  | succ k ih =>
    rw [ltrs_succ, List.mem_append, ih]
    simp only [List.mem_cons, List.not_mem_nil, or_false]
    omega
def act (ps : List (Pm d)) (i : Int) : Pm d := if 0 < i then ps.getD (i.natAbs - 1) Pm.one else (ps.getD (i.natAbs - 1) Pm.one).inv
theorem act_neg {ps : List (Pm d)} {i : Int} (h : i ≠ 0) : act ps (-i) = (act ps i).inv := by
  unfold act
  rw [Int.natAbs_neg]
  by_cases c : 0 < i
  · rw [if_neg (by omega), if_pos c]
  · rw [if_pos (by omega), if_neg c]; rfl
abbrev stp (ps : List (Pm d)) : Int → Nat → Nat := fun i x => (act ps i).f x
theorem stp_lt {ps : List (Pm d)} : ∀ i ∈ ltrs ps.length, ∀ x, x < d → stp ps i x < d := fun i _ x hx => (act ps i).lt hx
theorem act_mem {ps : List (Pm d)} {p : Pm d} (h : p ∈ ps) : ∃ i ∈ ltrs ps.length, act ps i = p := by
  obtain ⟨j, hj, rfl⟩ := List.getElem_of_mem h
  refine ⟨(j : Int) + 1, ltrs_mem.mpr (by omega), ?_⟩
  rw [act, if_pos (by omega), show ((j : Int) + 1).natAbs - 1 = j by omega, List.getD_eq_getElem?_getD, List.getElem?_eq_getElem hj]; rfl
/-- leading words of a connected system: each sheet has one -/
theorem lead_all {ps : List (Pm d)} (hc : (parts ps).length = 1) {x : Nat} (hx : x < d) : ∀ y, y < d → y ∈ (lead (stp ps) (ltrs ps.length) d x).map (·.1) := by
  obtain ⟨ok, cl⟩ := lead_ok (s := stp ps) (Ls := ltrs ps.length) stp_lt hx
  have cl2 : ∀ i ∈ ltrs ps.length, ∀ y, y ∈ (lead (stp ps) (ltrs ps.length) d x).map (·.1) → (act ps i).f y ∈ (lead (stp ps) (ltrs ps.length) d x).map (·.1) := fun i hi y hy => by
    obtain ⟨e, he, rfl⟩ := List.mem_map.mp hy
    exact cl e he i hi
  refine all_of_conn (by omega) hc (fun p hp y _ => ?_) hx lead_x0
  obtain ⟨i, hi, e⟩ := act_mem hp
  have hi' := ltrs_mem.mp hi
  refine ⟨fun h => ?_, fun h => by rw [← e]; exact cl2 i hi y h⟩
  have := cl2 (-i) (ltrs_mem.mpr (by omega)) _ h
  rw [act_neg (by omega), e] at this
  show y ∈ _
  rw [Pm.inv_f, p.bf] at this
  exact this
theorem lead_len {ps : List (Pm d)} (hc : (parts ps).length = 1) {x : Nat} (hx : x < d) : (lead (stp ps) (ltrs ps.length) d x).length = d := by
  obtain ⟨ok, _⟩ := lead_ok (s := stp ps) (Ls := ltrs ps.length) stp_lt hx
  have h1 := ok.card
  have h2 := nodup_len (l := List.range d) (D := (lead (stp ps) (ltrs ps.length) d x).map (·.1)) List.nodup_range fun y hy => lead_all hc hx y (List.mem_range.mp hy)
  simp at h2; omega
def wact (ps : List (Pm d)) (is : List Int) : Pm d := is.foldl (fun c i => c * act ps i) Pm.one
theorem wact_from (ps : List (Pm d)) (is : List Int) (c : Pm d) : is.foldl (fun c i => c * act ps i) c = c * wact ps is := by
  unfold wact
  induction is generalizing c with
  | nil => rfl
  | cons i is ih => rw [List.foldl_cons, List.foldl_cons, ih, ih (Pm.one * act ps i), Pm.one_mul, Pm.assoc]
theorem wact_cons (ps : List (Pm d)) (i : Int) (is : List Int) : wact ps (i :: is) = act ps i * wact ps is := by
  rw [wact, List.foldl_cons, wact_from, Pm.one_mul]
theorem nd_wact {ps : List (Pm d)} : ∀ (w : List Int) (x : Nat), nd (stp ps) x w = (wact ps w).f x
  | [], x => rfl
  | i :: w, x => by rw [wact_cons, Pm.mul_f, ← nd_wact w, nd, nd, List.foldl_cons]
end Fx

set_option Elab.async false
set_option linter.all false
set_option maxRecDepth 100000
set_option maxHeartbeats 4000000
namespace Fx
open PySem L2
variable {d : Nat}
/-! ### tables of letters, words -/
def tabL : List (Pm d) → Nat → List (Key × D)
  | [], _ => []
  | p :: r, j => (.inl ((j : Int) + 1), tp p) :: (.inl (-((j : Int) + 1)), tp p.inv) :: tabL r (j + 1)
theorem tabL_snoc (p : Pm d) : ∀ (ps : List (Pm d)) (j : Nat), tabL (ps ++ [p]) j = tabL ps j ++ [(.inl (((j + ps.length : Nat) : Int) + 1), tp p), (.inl (-(((j + ps.length : Nat) : Int) + 1)), tp p.inv)]
  | [], j => by simp [tabL]
  | q :: ps, j => by
    have e : j + 1 + ps.length = j + (ps.length + 1) := by omega
    simp only [List.cons_append, tabL, tabL_snoc p ps (j + 1), List.length_cons, e]
theorem tabL_any {i : Int} : ∀ (ps : List (Pm d)) (j : Nat), (i.natAbs ≤ j ∨ j + ps.length < i.natAbs) → ((tabL ps j).any fun kv => decide (kv.1 = Sum.inl i)) = false
  | [], _, _ => rfl
  | p :: ps, j, h => by
    simp only [List.length_cons] at h
    have e := tabL_any (i := i) ps (j + 1) (by omega)
    have n1 : ¬ ((j : Int) + 1 = i) := by omega
    have n2 : ¬ (-((j : Int) + 1) = i) := by omega
    simp only [tabL, List.any_cons, Sum.inl.injEq, n1, n2, decide_false, Bool.false_or]
    exact e
theorem tabL_val {i : Int} : ∀ (ps : List (Pm d)) (j : Nat), j < i.natAbs → i.natAbs ≤ j + ps.length → valD (tabL ps j) (.inl i) = some (tp (if 0 < i then ps.getD (i.natAbs - 1 - j) Pm.one else (ps.getD (i.natAbs - 1 - j) Pm.one).inv))
  | [], j, h1, h2 => by simp at h2; omega
  | p :: ps, j, h1, h2 => by
    simp only [List.length_cons] at h2
    by_cases e : i.natAbs = j + 1
    · have e0 : i.natAbs - 1 - j = 0 := by omega
      rw [e0]
      by_cases c : 0 < i
      · have n1 : (j : Int) + 1 = i := by omega
        simp [valD, tabL, n1, c]
      · have n1 : ¬ ((j : Int) + 1 = i) := by omega
        have n2 : -((j : Int) + 1) = i := by omega
        simp only [valD, tabL, List.find?_cons, Sum.inl.injEq, n1, n2, decide_false, decide_true, if_neg c]
        simp
    · have n1 : ¬ ((j : Int) + 1 = i) := by omega
      have n2 : ¬ (-((j : Int) + 1) = i) := by omega
      have q := tabL_val (i := i) ps (j + 1) (by omega) (by omega)
      have e1 : i.natAbs - 1 - j = (i.natAbs - 1 - (j + 1)) + 1 := by omega
      rw [e1]
      simp only [List.getD_cons_succ]
      rw [← q]
      simp only [valD, tabL, List.find?_cons, Sum.inl.injEq, n1, n2, decide_false]
theorem putD_new {kvs : List (Key × D)} {k : Key} {v : D} (h : (kvs.any fun kv => decide (kv.1 = k)) = false) : putD kvs k v = kvs ++ [(k, v)] := by
  unfold putD
  rw [if_neg (by rw [h]; simp)]
theorem tabL_len : ∀ (ps : List (Pm d)) (j : Nat), (tabL ps j).length = 2 * ps.length
  | [], _ => rfl
  | p :: ps, j => by simp [tabL, tabL_len ps (j + 1)]; omega
theorem setD_at {st : Store} {kvs : List (Key × D)} {i : Int} {v : D} (h : (kvs.any fun kv => decide (kv.1 = Sum.inl i)) = false) (hl : kvs.length ≤ 500) : fSetD (.loc st.length) (.int i) v (st ++ [.dk kvs]) = some (st ++ [.dk (kvs ++ [(.inl i, v)])]) := by
  unfold fSetD
  simp only [st_get0, List.getElem?_cons_zero, Fx.keyOf]
  rw [if_pos (szFits_of1 (by omega)), putD_new h]
  simp
theorem enum_map {α : Type} {f : α → D} (l : List α) : enumD (l.map f) = (List.range l.length).zipWith (fun i a => D.tup [nD i, f a]) l := by
  unfold enumD
  rw [List.length_map, List.zipWith_map_right]
def letB (x : D) (k : Nat) : Bool := match x with
  | .int i => decide (1 ≤ i.natAbs ∧ i.natAbs ≤ k)
  | _ => false
def wordB (x : D) (k : Nat) : Bool := match x with
  | .tup xs => decide (xs.length ≤ 2000) && xs.all fun x => letB x k
  | _ => false
def okW (x : D) : Prop := pl x = true ∧ ∀ xs, x = .tup xs → ∀ y ∈ xs, pl y = true
theorem okW_wD {is : List Int} : okW (wD is) := ⟨rfl, fun xs e y hy => by
  have e2 : xs = is.map D.int := by injection e with e; exact e.symm
  subst e2
  obtain ⟨n, _, rfl⟩ := List.mem_map.mp hy; rfl⟩
structure Wd (k : Nat) (is : List Int) : Prop where
  len : is.length ≤ 2000
  let_ : ∀ i ∈ is, 1 ≤ i.natAbs ∧ i.natAbs ≤ k
theorem wordB_wD {k : Nat} {is : List Int} (h : Wd k is) : wordB (wD is) k = true := by
  simp only [wordB, wD, List.length_map, decide_eq_true h.len, Bool.true_and, List.all_map, List.all_eq_true]
  intro i hi
  exact decide_eq_true (h.let_ i hi)
theorem eqv_ints : ∀ {a b : List Int}, PyData.eqvAll (toPys (a.map D.int)) (toPys (b.map D.int)) = decide (a = b)
  | [], [] => by simp [toPys, PyData.eqvAll]
  | [], _ :: _ => by simp [toPys, PyData.eqvAll]
  | _ :: _, [] => by simp [toPys, PyData.eqvAll]
  | x :: a, y :: b => by
    simp only [List.map_cons, toPys, toPy, PyData.eqvAll, PyData.eqv, eqv_ints (a := a) (b := b)]
    by_cases h : x = y
    · subst h; simp
    · simp [h]
theorem eqD_wD {a b : List Int} : eqD (wD a) (wD b) = decide (a = b) := by
  unfold eqD wD
  simp only [toPy, PyData.eqv]
  exact eqv_ints
theorem fl_wD {a : List Int} : Fl 1 (wD a) := Fl.tup fun x hx => by
  obtain ⟨n, _, rfl⟩ := List.mem_map.mp hx; exact .int
theorem fNe_wD {a b : List Int} {st : Store} : fNe (wD a) (wD b) st = .ok (.bl (!decide (a = b))) st := by
  unfold fNe
  rw [if_pos ⟨fl_wD.sh, fl_wD.sh⟩, eqD_wD]
theorem fEq_wD {a b : List Int} {st : Store} : fEq (wD a) (wD b) st = .ok (.bl (decide (a = b))) st := by
  unfold fEq
  rw [if_pos ⟨fl_wD.sh, fl_wD.sh⟩, eqD_wD]
def sheetB (x : D) (d : Nat) : Bool := match x with
  | .int i => decide (0 ≤ i ∧ i < (d : Int))
  | _ => false
end Fx

set_option Elab.async false
set_option linter.all false
set_option maxRecDepth 100000
set_option maxHeartbeats 4000000
namespace Fx
open PySem L2
variable {d : Nat}
/-! ### the dict of the words found -/
def kvE (F : List Ent) : List (Key × D) := F.map fun e => (.inl (e.1 : Int), wD e.2)
def ordL (F : List Ent) : List D := F.map fun e => nD e.1
theorem kvE_len (F : List Ent) : (kvE F).length = F.length := by simp [kvE]
theorem valD_kvE {y : Nat} : ∀ F : List Ent, valD (kvE F) (.inl (y : Int)) = if y ∈ F.map (·.1) then some (wD (wordOf F y)) else none
  | [] => rfl
  | a :: F => by
    have ih := valD_kvE (y := y) F
    by_cases h : a.1 = y
    · have e : wordOf (a :: F) y = a.2 := by simp [wordOf, h]
      rw [if_pos (by simp [h]), e]
      have h' : (a.1 : Int) = (y : Int) := by omega
      simp only [valD, kvE, List.map_cons, List.find?_cons, h', decide_true, Option.map_some]
    · have h' : ¬ (a.1 : Int) = (y : Int) := by omega
      have e : wordOf (a :: F) y = wordOf F y := by simp [wordOf, h]
      have hm : (y ∈ (a :: F).map (·.1)) = (y ∈ F.map (·.1)) := by
        rw [List.map_cons, List.mem_cons]
        exact propext ⟨fun z => z.elim (fun z => absurd z.symm h) id, .inr⟩
      rw [e]
      simp only [hm]
      rw [← ih]
      simp only [valD, kvE, List.map_cons, List.find?_cons, Sum.inl.injEq, h', decide_false]
theorem any_kvE {F : List Ent} {y : Nat} (h : y ∉ F.map (·.1)) : ((kvE F).any fun kv => decide (kv.1 = Sum.inl (y : Int))) = false := by
  rw [kvE, List.any_map, List.any_eq_false]
  intro e he
  simp only [Function.comp, decide_eq_true_eq, Sum.inl.injEq]
  intro z
  exact h (List.mem_map.mpr ⟨e, he, by omega⟩)
section
variable {st : Store} {L y : Nat} {F : List Ent}
theorem kvE_in (h : st[L]? = some (.dk (kvE F))) : fDIn true (nD y) (.loc L) st = .ok (.bl (decide (y ∈ F.map (·.1)))) st := by
  unfold fDIn dGet
  simp only [h, nD, Fx.keyOf, valD_kvE]
  by_cases c : y ∈ F.map (·.1)
  · rw [if_pos c, decide_eq_true c]
  · rw [if_neg c, decide_eq_false c]; rfl
theorem kvE_notin (h : st[L]? = some (.dk (kvE F))) : fDIn false (nD y) (.loc L) st = .ok (.bl (!decide (y ∈ F.map (·.1)))) st := fDIn_not (kvE_in h)
theorem kvE_get (h : st[L]? = some (.dk (kvE F))) (hy : y ∈ F.map (·.1)) : fDGet (.loc L) (nD y) st = .ok (wD (wordOf F y)) st := by
  unfold fDGet dGet
  simp only [h, nD, Fx.keyOf, valD_kvE]
  rw [if_pos hy]
theorem kvE_set {w : List Int} (h : st[L]? = some (.dk (kvE F))) (hy : y ∉ F.map (·.1)) (hl : F.length ≤ 900) : fSetD (.loc L) (nD y) (wD w) st = some (st.set L (.dk (kvE (F ++ [(y, w)])))) := by
  unfold fSetD
  simp only [h, nD, Fx.keyOf]
  rw [if_pos (szFits_of1 (by rw [kvE_len]; omega)), putD_new (any_kvE hy)]
  simp [kvE, nD]
theorem ord_get {k : Nat} {e : Ent} (h : st[L]? = some (.lst (ordL F))) (hk : F[k]? = some e) : fIx (.loc L) (.int (k : Int)) st = .ok (nD e.1) st := by
  have q := x_ixLoc (k := (k : Int)) h
  rw [ordL, atI_map hk] at q
  exact q
theorem ord_app {w : List Int} (h : st[L]? = some (.lst (ordL F))) (hl : F.length ≤ 900) : fApp (.loc L) [nD y] st = .ok .non (st.set L (.lst (ordL (F ++ [(y, w)])))) := by
  rw [x_app h (small1000 (by simp [ordL]; omega))]
  simp [ordL]
theorem kvE_len' (h : st[L]? = some (.dk (kvE F))) : fLen [.loc L] st = .ok (.int (F.length : Int)) st := by
  simp [fLen, seqOf, h, kvE_len]
end
/-- the words as they are told -/
def leadD (F : List Ent) (d : Nat) : D := .tup ((List.range d).map fun y => wD (wordOf F y))
theorem add_w1 {w : List Int} {i : Int} {st : Store} (h : w.length ≤ 900) : fAdd (wD w) (.tup [.int i]) st = .ok (wD (w ++ [i])) st := by
  simp [wD, fAdd]
  exact szFits_of1 (by omega)
end Fx

set_option Elab.async false
set_option linter.all false
set_option maxRecDepth 100000
set_option maxHeartbeats 4000000
namespace Fx
open PySem L2 PyProof.Rows PySem.SeqAt PySem.W
/-! ### min of a list of data of any depth -/
def rMinA (K : PySem.W.Frag) : List V → Hp → VK → Prop := fun xs H Q => ∃ a us x ds, xs = [.ref a] ∧ SqL K H a us ∧ DpAll K H us (x :: ds) ∧ AlikeAll (x :: ds) ∧ PyData.depthAll (x :: ds) ≤ 64 ∧
  ∀ (i : Nat) u, us[i]? = some u → (x :: ds)[i]? = some (minD x ds) → Q u H
theorem call_minA {X : Cx} (hc : X.calm = true) (hu : X.A.units + 65 < cLine) : CallR X (.builtin "min") (rMinA X.K) := by
  intro pins s σ H xs us Q I r h
  obtain ⟨a, vs, x, ds, rfl, hs, hd, ha, hz, q⟩ := h
  obtain ⟨u, rfl, ru⟩ := vals1 r
  cases ru
  obtain ⟨its, rv, hl, _⟩ := I.list hs
  obtain ⟨as, hr⟩ := Dp.readsAll I (x :: ds) vs its hd rv
  refine min_list_data (I.ok.hd hc) hl.isList (by simpa using hr) ha (by omega) fun i v h' tk bs hi hv hk => ?_
  have hi' : its[i]? = some v := by simpa using hi
  obtain ⟨bs2, r2, hlt, hm, _⟩ := readsAll_at hr i v hi'
  have e0 : (x :: ds).getD i .none = minD x ds := by
    have hmem : minD x ds ∈ x :: ds := by
      unfold minD
      have : ∀ (ys : List PyData) (y : PyData), ys.foldl (fun a y => if dataLt y a then y else a) y ∈ y :: ys := by
        intro ys
        induction ys with
        | nil => intro y; simp
        | cons z ys ih =>
          intro y
          rw [List.foldl_cons]
          rcases List.mem_cons.mp (ih (if dataLt z y then z else y)) with e | e
          · rw [e]; split <;> simp
          · exact List.mem_cons_of_mem _ (List.mem_cons_of_mem _ e)
      exact this ds x
    exact alike_unique _ _ v _ _ (ha.1 _ hm _ hmem) (reads_keeps hk r2) hv
  have hlen : i < vs.length := by rw [rv.length]; exact (List.getElem?_eq_some_iff.mp hi').1
  obtain ⟨w, hw, rw'⟩ : ∃ w, vs[i]? = some w ∧ RelV w v := by
    have : ∀ {vs : List V} {its : List Value} {i : Nat} {v : Value}, Vals vs its → its[i]? = some v → ∃ w, vs[i]? = some w ∧ RelV w v := by
      intro vs its i v h
      induction h generalizing i with
      | nil => intro e; simp at e
      | cons h t ih =>
        intro e
        cases i with
        | zero => simp at e; subst e; exact ⟨_, rfl, h⟩
        | succ i => simp at e ⊢; exact ih e
    exact this rv hi'
  refine ⟨w, H, I.kept hk, rw', q i w hw ?_⟩
  rw [← e0, List.getD_eq_getElem?_getD, List.getElem?_eq_getElem hlt]; rfl
mutual
theorem toPy_inj : ∀ {a b : D}, dOk a = true → dOk b = true → toPy a = toPy b → a = b
  | .non, b, _, hb, e => by cases b <;> simp_all [toPy, dOk]
  | .bl x, b, _, hb, e => by cases b <;> simp_all [toPy, dOk]
  | .int x, b, _, hb, e => by cases b <;> simp_all [toPy, dOk]
  | .str x, b, _, hb, e => by cases b <;> simp_all [toPy, dOk]
  | .ty x, _, h, _, _ => by simp [dOk] at h
  | .fn x, _, h, _, _ => by simp [dOk] at h
  | .loc x, _, h, _, _ => by simp [dOk] at h
  | .tup xs, b, ha, hb, e => by
    cases b with
    | tup ys =>
      simp only [toPy, PyData.tuple.injEq] at e
      simp only [dOk] at ha hb
      rw [toPys_inj ha hb e]
    | _ => simp [toPy] at e
  | .lst xs, b, ha, hb, e => by
    cases b with
    | lst ys =>
      simp only [toPy, PyData.list.injEq] at e
      simp only [dOk] at ha hb
      rw [toPys_inj ha hb e]
    | _ => simp [toPy] at e
theorem toPys_inj : ∀ {a b : List D}, dOks a = true → dOks b = true → toPys a = toPys b → a = b
  | [], [], _, _, _ => rfl
  | [], _ :: _, _, _, e => by simp [toPys] at e
  | _ :: _, [], _, _, e => by simp [toPys] at e
  | x :: xs, y :: ys, ha, hb, e => by
    simp only [toPys, List.cons.injEq] at e
    simp only [dOks, Bool.and_eq_true] at ha hb
    rw [toPy_inj ha.1 hb.1 e.1, toPys_inj ha.2 hb.2 e.2]
end
def minF (x : D) (xs : List D) : D := xs.foldl (fun a y => if dataLt (toPy y) (toPy a) = true then y else a) x
theorem minF_toPy : ∀ (xs : List D) (x : D), toPy (minF x xs) = minD (toPy x) (toPys xs)
  | [], x => rfl
  | y :: ys, x => by
    have ih := minF_toPy ys (if dataLt (toPy y) (toPy x) = true then y else x)
    simp only [minF, minD, toPys, List.foldl_cons] at ih ⊢
    rw [ih]
    congr 1
    split <;> rfl
theorem minF_mem : ∀ (xs : List D) (x : D), minF x xs ∈ x :: xs
  | [], x => by simp [minF]
  | y :: ys, x => by
    have ih := minF_mem ys (if dataLt (toPy y) (toPy x) = true then y else x)
    rw [minF] at ih ⊢
    rw [List.foldl_cons]
    rcases List.mem_cons.mp ih with e | e
    · rw [e]; split <;> simp
    · exact List.mem_cons_of_mem _ (List.mem_cons_of_mem _ e)
/-- a row that min is told of -/
def MinOk (xs : List D) : Prop := dOks xs = true ∧ AlikeAll (toPys xs) ∧ PyData.depthAll (toPys xs) ≤ 64
open Classical in
noncomputable def fMinA : FB D := fun ds st => match ds with
  | [d] => (match listOf d st with
    | some (x :: xs) => if MinOk (x :: xs) then .ok (minF x xs) st else .no
    | _ => .no)
  | _ => .no
theorem toPys_get : ∀ {xs : List D} {i : Nat} {x : PyData}, (toPys xs)[i]? = some x → ∃ d, xs[i]? = some d ∧ toPy d = x
  | [], i, x, h => by simp [toPys] at h
  | d :: ds, 0, x, h => by simp [toPys] at h; exact ⟨d, rfl, h⟩
  | d :: ds, i + 1, x, h => by simp [toPys] at h ⊢; exact toPys_get h
theorem cs_minA {X : Cx} (hc : X.calm = true) (hu : X.A.units + 65 < cLine) : CallS X (reD X.K) (.builtin "min") fMinA := by
  refine ⟨_, call_minA hc hu, fun W σ ρ st H ds vs Q r rv o => ?_⟩
  match ds, rv, o with
  | [d], rv, o =>
    obtain ⟨v, rfl, rd⟩ := rv.one
    simp only [fMinA] at o
    cases hl : Fx.listOf d st with
    | none => rw [hl] at o; exact o.elim
    | some xs =>
      rw [hl] at o
      cases xs with
      | nil => exact o.elim
      | cons x xs =>
        simp only at o
        split at o
        · rename_i h
          obtain ⟨h1, h2, h3⟩ := h
          obtain ⟨p, us, rfl, hs, ru⟩ := listOf_rel r rd hl
          have hd : DpAll X.K H us (toPys (x :: xs)) := dps_of (x :: xs) h1 ru
          have hx : dOk x = true ∧ dOks xs = true := by simpa [dOks] using h1
          refine ⟨p, us, toPy x, toPys xs, rfl, hs, hd, h2, h3, fun i u hu he => ?_⟩
          rw [← minF_toPy] at he
          obtain ⟨d', hd', e⟩ := toPys_get (xs := x :: xs) he
          have hm := minF_mem xs x
          have hok := dOks_all.mp h1
          have : d' = minF x xs := toPy_inj (hok d' (List.mem_of_getElem? hd')) (hok _ hm) e
          subst this
          obtain ⟨u', hu', ru'⟩ := ru.get hd'
          rw [hu] at hu'
          cases hu'
          exact o.here r ru'
        · exact o.elim
  | [], _, o => exact o.elim
  | _ :: _ :: _, _, o => simp [fMinA] at o; exact o.elim
theorem x_minA {st : Store} {x : D} {xs : List D} (h : MinOk (x :: xs)) : fMinA [.lst (x :: xs)] st = .ok (minF x xs) st := by
  simp only [fMinA, Fx.listOf]
  rw [if_pos h]
/-! the order is one -/
theorem toks_inj {x y : PyData} (h : PySem.W.alike x y = true) (e : keyToks x = keyToks y) : PyData.eqv x y = true := by
  cases q : PyData.eqv x y with
  | true => rfl
  | false =>
    have h1 := (toks_eqv x y h).2 q [] [.inl 0]
    rw [e, lex_pre, lex_irrefl] at h1
    simp [PyProof.Rows.lexLt] at h1
theorem data_total {x y : PyData} (h : PySem.W.alike x y = true) (h1 : dataLt x y = false) (h2 : dataLt y x = false) : PyData.eqv x y = true := toks_inj h (lex_total _ _ h1 h2)
theorem minF_le : ∀ (xs : List D) (x y : D), y ∈ x :: xs → dataLt (toPy y) (toPy (minF x xs)) = false
  | [], x, y, h => by
    rw [List.mem_singleton] at h; subst h
    exact dataLt_self _
  | z :: zs, x, y, h => by
    have e : minF x (z :: zs) = minF (if dataLt (toPy z) (toPy x) = true then z else x) zs := by simp only [minF, List.foldl_cons]
    rw [e]
    have ih0 := minF_le zs (if dataLt (toPy z) (toPy x) = true then z else x) _ List.mem_cons_self
    have neg : ∀ {a b c : PyData}, dataLt a b = false → dataLt b c = false → dataLt a c = false := by
      intro a b c h1 h2
      cases q : dataLt a c with
      | false => rfl
      | true =>
        rcases lex_negTrans (O := itemOrd) _ (keyToks b) _ q with z | z
        · exact absurd (h1.symm.trans z) (by simp)
        · exact absurd (h2.symm.trans z) (by simp)
    by_cases c : dataLt (toPy z) (toPy x) = true
    · rw [if_pos c] at ih0 ⊢
      rcases List.mem_cons.mp h with rfl | h
      · refine neg ?_ ih0
        cases q : dataLt (toPy y) (toPy z) with
        | false => rfl
        | true => exact absurd (lex_trans (O := itemOrd) _ _ _ q c) (by rw [show PyProof.Rows.lexLt itemOrd (keyToks (toPy y)) (keyToks (toPy y)) = false from lex_irrefl _]; simp)
      · exact minF_le zs z y h
    · rw [if_neg c] at ih0 ⊢
      have c' : dataLt (toPy z) (toPy x) = false := by simpa using c
      rcases List.mem_cons.mp h with rfl | h
      · exact ih0
      · rcases List.mem_cons.mp h with rfl | h
        · exact neg c' ih0
        · exact minF_le zs x y (List.mem_cons_of_mem _ h)
/-- the least of a row does not hang on its order -/
theorem minF_same {x y : D} {xs ys : List D} (hx : MinOk (x :: xs)) (hm : ∀ d, d ∈ x :: xs ↔ d ∈ y :: ys) (he : ∀ a ∈ x :: xs, ∀ b ∈ x :: xs, PyData.eqv (toPy a) (toPy b) = true → a = b) : minF x xs = minF y ys := by
  have m1 := minF_mem xs x
  have m2 := (hm _).mpr (minF_mem ys y)
  have l1 := minF_le xs x _ m2
  have l2 := minF_le ys y _ ((hm _).mp m1)
  have al : PySem.W.alike (toPy (minF x xs)) (toPy (minF y ys)) = true := by
    have key : ∀ {xs : List D} {d : D}, d ∈ xs → toPy d ∈ toPys xs := by
      intro xs
      induction xs with
      | nil => intro d h; cases h
      | cons a xs ih =>
        intro d h
        simp only [toPys]
        rcases List.mem_cons.mp h with rfl | h
        · exact List.mem_cons_self
        · exact List.mem_cons_of_mem _ (ih h)
    exact hx.2.1.1 _ (key m1) _ (key m2)
  exact he _ m1 _ m2 (data_total al l2 l1)
end Fx

set_option Elab.async false
set_option linter.all false
set_option maxRecDepth 100000
set_option maxHeartbeats 4000000
namespace Fx
open PySem L2
variable {d : Nat} {ps us : List (Pm d)}
/-! ### systems as typed data -/
open PySem.W in
def codeS (ps : List (Pm d)) : Int × Tup (Tup Int) := ((d : Int), ⟨ps.map fun p => ⟨p.list.map fun (k : Nat) => (k : Int)⟩⟩)
theorem toPys_map {α : Type} {f : α → D} {g : α → PyData} : ∀ (l : List α), (∀ x ∈ l, toPy (f x) = g x) → toPys (l.map f) = l.map g
  | [], _ => rfl
  | x :: l, h => by simp only [List.map_cons, toPys, h x List.mem_cons_self, toPys_map l fun y hy => h y (List.mem_cons_of_mem _ hy)]
theorem toPy_sysD : toPy (sysD ps) = PySem.W.Datum.toD (codeS ps) := by
  have h1 : ∀ p : Pm d, toPy (tp p) = .tuple (p.list.map fun (k : Nat) => PyData.int (k : Int)) := fun p => by
    rw [tp, lD]; simp only [toPy]
    rw [toPys_map (g := fun (k : Nat) => PyData.int (k : Int)) _ fun x _ => rfl]
  have h2 : toPys (ps.map tp) = ps.map fun p => PyData.tuple (p.list.map fun (k : Nat) => PyData.int (k : Int)) := toPys_map _ fun p _ => h1 p
  rw [sysD, rD]
  simp only [toPy, toPys, h2]
  show PyData.tuple [.int (d : Int), .tuple _] = PyData.tuple [.int (d : Int), .tuple _]
  congr 4
  rw [codeS]
  simp only [List.map_map]
  refine List.map_congr_left fun p _ => ?_
  show PyData.tuple _ = PyData.tuple _
  simp [List.map_map]
  intro a _
  rfl
theorem codeS_inj (h : codeS ps = codeS us) : ps = us := by
  have h2 := congrArg (fun t : Int × PySem.W.Tup (PySem.W.Tup Int) => t.2.items.map fun u => u.items.map Int.toNat) h
  simp only [codeS, List.map_map] at h2
  have key : ∀ (l : List Nat), (l.map fun (k : Nat) => (k : Int)).map Int.toNat = l := fun l => by
    rw [List.map_map]
    exact (List.map_congr_left fun k _ => by simp).trans (List.map_id l)
  have h3 : ps.map Pm.list = us.map Pm.list := by
    have e : ∀ l : List (Pm d), (l.map (((fun u : PySem.W.Tup Int => u.items.map Int.toNat)) ∘ fun p => (⟨p.list.map fun (k : Nat) => (k : Int)⟩ : PySem.W.Tup Int))) = l.map Pm.list := fun l => List.map_congr_left fun p _ => key p.list
    rw [e, e] at h2; exact h2
  clear h h2
  induction ps generalizing us with
  | nil =>
    cases us with
    | nil => rfl
    | cons u us => simp at h3
  | cons p ps ih =>
    cases us with
    | nil => simp at h3
    | cons u us =>
      simp only [List.map_cons, List.cons.injEq] at h3
      rw [Pm.list_inj h3.1, ih h3.2]
theorem eqv_sysD : PyData.eqv (toPy (sysD ps)) (toPy (sysD us)) = true ↔ ps = us := by
  rw [toPy_sysD, toPy_sysD, PySem.W.Datum.eqv, decide_eq_true_eq]
  exact ⟨codeS_inj, fun h => by rw [h]⟩
theorem sysD_inj (h : sysD ps = sysD us) : ps = us := eqv_sysD.mp (by rw [h]; exact eqD_refl (fl_sysD).1)
open Classical in
theorem fEq_sysD {st : Store} : fEq (sysD ps) (sysD us) st = .ok (.bl (decide (ps = us))) st := by
  unfold fEq
  rw [if_pos ⟨fl_sysD.sh, fl_sysD.sh⟩]
  congr 2
  unfold eqD
  by_cases h : ps = us
  · rw [decide_eq_true h]; exact eqv_sysD.mpr h
  · rw [decide_eq_false h]
    cases q : PyData.eqv (toPy (sysD ps)) (toPy (sysD us)) with
    | false => rfl
    | true => exact absurd (eqv_sysD.mp q) h
theorem minOk_sys {α : Type} {f : α → List (Pm d)} {l : List α} : MinOk (l.map fun a => sysD (f a)) := by
  have e : toPys (l.map fun a => sysD (f a)) = l.map fun a => PySem.W.Datum.toD (codeS (f a)) := toPys_map _ fun a _ => toPy_sysD
  refine ⟨dOks_all.mpr fun x hx => ?_, ⟨fun x hx y hy => ?_, fun x hx => ?_⟩, ?_⟩
  · obtain ⟨a, _, rfl⟩ := List.mem_map.mp hx; exact fl_sysD.1
  · rw [e] at hx hy
    obtain ⟨a, _, rfl⟩ := List.mem_map.mp hx
    obtain ⟨b, _, rfl⟩ := List.mem_map.mp hy
    exact PySem.W.DatumOrd.alike _ _
  · rw [e] at hx
    obtain ⟨a, _, rfl⟩ := List.mem_map.mp hx
    exact PySem.W.DatumOrd.notNone _
  · exact Nat.le_trans (depths_le (k := 3) fun x hx => by obtain ⟨a, _, rfl⟩ := List.mem_map.mp hx; exact fl_sysD.2) (by decide)
/-! ### systems renumbered -/
def cj (f p : Pm d) : Pm d := f.inv * (p * f)
def turn (ps : List (Pm d)) (f : Pm d) : List (Pm d) := ps.map fun p => f.inv * (p * f)
theorem cj_f (f p : Pm d) (x : Nat) : (cj f p).f (f.f x) = f.f (p.f x) := by show f.f (p.f (f.b (f.f x))) = _; rw [f.bf]
theorem turn_turn (f g : Pm d) : turn (turn ps f) g = turn ps (f * g) := by
  rw [turn, turn, turn, List.map_map]
  refine List.map_congr_left fun p _ => ?_
  exact Pm.ext fun x => rfl
theorem turn_one : turn ps Pm.one = ps := by
  rw [turn]
  refine (List.map_congr_left fun p _ => ?_).trans (List.map_id ps)
  exact Pm.ext fun x => rfl
theorem turn_inv (f : Pm d) : turn (turn ps f) f.inv = ps := by rw [turn_turn, Pm.mul_inv, turn_one]
theorem turn_len (f : Pm d) : (turn ps f).length = ps.length := by simp [turn]
/-- the order of the sheets -/
def ordr (ps : List (Pm d)) (x : Nat) : List Nat := (bfs ps d 0 ([x], [x])).2
theorem invx {x : Nat} (hx : x < d) : Inv2 d (([x], [x]) : List Nat × List Nat) := ⟨by simp, by simp [hx], by simp, by simp⟩
theorem ordr_x {x : Nat} : x ∈ ordr ps x := by
  unfold ordr
  rw [← bfs_same d 0 rfl]
  exact bfs_keep d 0 (by simp)
theorem ordr_inv {x : Nat} (hx : x < d) : (ordr ps x).Nodup ∧ ∀ y ∈ ordr ps x, y < d := by
  have h := (invx hx).bfs (ps := ps) d 0
  exact ⟨h.nd2, fun y hy => h.lt y (h.sub y hy)⟩
theorem ordr_step {x y : Nat} (hx : x < d) (hy : y ∈ ordr ps x) {p : Pm d} (hp : p ∈ ps) : p.f y ∈ ordr ps x := by
  have := bfs_done (ps := ps) d 0 (invx hx) (fun j hj => absurd hj (Nat.not_lt_zero j)) (by omega) y hy p hp
  rw [bfs_same d 0 rfl] at this
  exact this
theorem back_of {L : List Nat} (hn : L.Nodup) {p : Pm d} (h : ∀ y ∈ L, p.f y ∈ L) {y : Nat} (hy : p.f y ∈ L) : y ∈ L := by
  have h1 : (L.map p.f).Nodup := by
    rw [List.Nodup, List.pairwise_map]
    exact hn.imp fun hne e => hne (p.inj e)
  have h2 := nodup_all h1 (D := L) (fun z hz => by
    obtain ⟨w, hw, rfl⟩ := List.mem_map.mp hz
    exact h w hw) (by simp) _ hy
  obtain ⟨z, hz, e⟩ := List.mem_map.mp h2
  rw [← p.inj e]; exact hz
theorem ordr_all {x : Nat} (hc : (parts ps).length = 1) (hx : x < d) : ∀ y, y < d → y ∈ ordr ps x :=
  all_of_conn (by omega) hc (S := fun y => y ∈ ordr ps x) (fun p hp y _ => ⟨fun h => back_of (ordr_inv hx).1 (fun z hz => ordr_step hx hz hp) h, fun h => ordr_step hx h hp⟩) hx ordr_x
theorem ordr_perm {x : Nat} (hc : (parts ps).length = 1) (hx : x < d) : (ordr ps x).Perm (List.range d) := by
  have h := ordr_inv (ps := ps) hx
  refine nodup_perm h.1 List.nodup_range (fun y hy => List.mem_range.mpr (h.2 y hy)) ?_
  have := nodup_len (l := List.range d) (D := ordr ps x) List.nodup_range fun y hy => ordr_all hc hx y (List.mem_range.mp hy)
  simpa using this
open Classical in
noncomputable def num (ps : List (Pm d)) (x : Nat) : Pm d := if h : (ordr ps x).Perm (List.range d) then Pm.ofList _ h else Pm.one
theorem num_list {x : Nat} (hc : (parts ps).length = 1) (hx : x < d) : (num ps x).list = ordr ps x := by
  rw [num, dif_pos (ordr_perm hc hx), Pm.ofList_list]
theorem bfs_map (f : Pm d) : ∀ (n k : Nat) (σ : List Nat × List Nat), bfs (turn ps f) n k (σ.1.map f.f, σ.2.map f.f) = ((bfs ps n k σ).1.map f.f, (bfs ps n k σ).2.map f.f) := by
  have mem : ∀ {l : List Nat} {y : Nat}, f.f y ∈ l.map f.f ↔ y ∈ l := fun {l y} => by
    refine ⟨fun h => ?_, fun h => List.mem_map.mpr ⟨y, h, rfl⟩⟩
    obtain ⟨z, hz, e⟩ := List.mem_map.mp h
    rw [← f.inj e]; exact hz
  have hv : ∀ (x : Nat) (p : Pm d) (σ : List Nat × List Nat), vis (f.f x) (σ.1.map f.f, σ.2.map f.f) (cj f p) = ((vis x σ p).1.map f.f, (vis x σ p).2.map f.f) := by
    intro x p σ
    unfold vis
    rw [cj_f]
    by_cases c : p.f x ∈ σ.1
    · rw [if_pos c, if_pos (mem.mpr c)]
    · rw [if_neg c, if_neg (fun z => c (mem.mp z))]
      simp
  have hf : ∀ (x : Nat) (qs : List (Pm d)) (σ : List Nat × List Nat), (qs.map (cj f)).foldl (vis (f.f x)) (σ.1.map f.f, σ.2.map f.f) = ((qs.foldl (vis x) σ).1.map f.f, (qs.foldl (vis x) σ).2.map f.f) := by
    intro x qs
    induction qs with
    | nil => intro σ; rfl
    | cons q qs ih => intro σ; rw [List.map_cons, List.foldl_cons, List.foldl_cons, hv, ih]
  intro n
  induction n with
  | zero => intro k σ; rfl
  | succ n ih =>
    intro k σ
    rw [bfs, bfs]
    simp only [List.getElem?_map]
    cases e : σ.2[k]? with
    | none => rfl
    | some x =>
      simp only [Option.map_some]
      rw [← ih, ← hf]; rfl
theorem ordr_turn (f : Pm d) (x : Nat) : ordr (turn ps f) (f.f x) = (ordr ps x).map f.f := by
  have := bfs_map (ps := ps) f d 0 ([x], [x])
  exact congrArg (fun t : List Nat × List Nat => t.2) this
theorem conn_turn (f : Pm d) (hd : 0 < d) (hc : (parts ps).length = 1) : (parts (turn ps f)).length = 1 := by
  refine (parts_iff hd).mpr fun x hx => ?_
  have hn := ordr_inv (ps := turn ps f) hd
  have hall := all_of_conn hd hc (S := fun y => f.f y ∈ ordr (turn ps f) 0) (x := f.b 0) (fun p hp y _ => by
    have hp' : cj f p ∈ turn ps f := List.mem_map.mpr ⟨p, hp, rfl⟩
    rw [← cj_f]
    exact ⟨fun h => back_of hn.1 (fun z hz => ordr_step hd hz hp') h, fun h => ordr_step hd h hp'⟩) (f.blt hd) (by rw [f.fb]; exact ordr_x) (f.b x) (f.blt hx)
  rw [f.fb] at hall
  exact hall
theorem num_turn (f : Pm d) {x : Nat} (hc : (parts ps).length = 1) (hx : x < d) : num (turn ps f) (f.f x) = num ps x * f := by
  refine Pm.list_inj ?_
  rw [num_list (conn_turn f (by omega) hc) (f.lt hx), ordr_turn, ← num_list hc hx, Pm.list, Pm.list, List.map_map]; rfl
noncomputable def numb (ps : List (Pm d)) (x : Nat) : List (Pm d) := turn ps (num ps x).inv
theorem numb_turn (f : Pm d) {x : Nat} (hc : (parts ps).length = 1) (hx : x < d) : numb (turn ps f) (f.f x) = numb ps x := by
  rw [numb, numb, num_turn f hc hx, Pm.inv_of_mul, turn_turn, Pm.mul_inv_l]
noncomputable def leastD (ps : List (Pm d)) : D := minF (sysD (numb ps 0)) ((List.range' 1 (d - 1)).map fun x => sysD (numb ps x))
theorem rng_cons {α : Type} (h : Nat → α) (hd : 0 < d) : (List.range d).map h = h 0 :: (List.range' 1 (d - 1)).map h := by
  obtain ⟨n, rfl⟩ : ∃ n, d = n + 1 := ⟨d - 1, by omega⟩
  rw [List.range_eq_range', List.range'_succ, List.map_cons]; rfl
theorem least_min {st : Store} (hd : 0 < d) : fMinA [.lst ((List.range d).map fun x => sysD (numb ps x))] st = .ok (leastD ps) st := by
  rw [rng_cons (fun x => sysD (numb ps x)) hd]
  refine x_minA ?_
  rw [← rng_cons (fun x => sysD (numb ps x)) hd]
  exact minOk_sys
theorem least_mem (hd : 0 < d) : ∃ x, x < d ∧ leastD ps = sysD (numb ps x) := by
  have := minF_mem ((List.range' 1 (d - 1)).map fun x => sysD (numb ps x)) (sysD (numb ps 0))
  rw [← rng_cons (fun x => sysD (numb ps x)) hd] at this
  obtain ⟨x, hx, e⟩ := List.mem_map.mp this
  exact ⟨x, List.mem_range.mp hx, e.symm⟩
theorem least_turn (f : Pm d) (hd : 0 < d) (hc : (parts ps).length = 1) : leastD (turn ps f) = leastD ps := by
  unfold leastD
  symm
  refine minF_same ?_ (fun z => ?_) fun a ha b hb e => ?_
  · rw [← rng_cons (fun x => sysD (numb ps x)) hd]; exact minOk_sys
  · rw [← rng_cons (fun x => sysD (numb ps x)) hd, ← rng_cons (fun x => sysD (numb (turn ps f) x)) hd]
    constructor
    · intro h
      obtain ⟨x, hx, rfl⟩ := List.mem_map.mp h
      exact List.mem_map.mpr ⟨f.f x, List.mem_range.mpr (f.lt (List.mem_range.mp hx)), by rw [numb_turn f hc (List.mem_range.mp hx)]⟩
    · intro h
      obtain ⟨x, hx, rfl⟩ := List.mem_map.mp h
      have hb := f.blt (List.mem_range.mp hx)
      refine List.mem_map.mpr ⟨f.b x, List.mem_range.mpr hb, ?_⟩
      rw [← numb_turn f hc hb, f.fb]
  · rw [← rng_cons (fun x => sysD (numb ps x)) hd] at ha hb
    obtain ⟨x, _, rfl⟩ := List.mem_map.mp ha
    obtain ⟨y, _, rfl⟩ := List.mem_map.mp hb
    rw [eqv_sysD.mp e]
theorem least_iff (hd : 0 < d) (hc : (parts ps).length = 1) : leastD us = leastD ps ↔ ∃ g : Pm d, us = turn ps g := by
  constructor
  · intro h
    obtain ⟨x, hx, e1⟩ := least_mem (ps := ps) hd
    obtain ⟨y, hy, e2⟩ := least_mem (ps := us) hd
    have e := sysD_inj (e2.symm.trans (h.trans e1))
    refine ⟨(num ps x).inv * num us y, ?_⟩
    rw [← turn_turn, show turn ps (num ps x).inv = numb ps x from rfl, ← e, numb]
    have := turn_inv (ps := us) (num us y).inv
    rw [Pm.inv_inv] at this
    exact this.symm
  · rintro ⟨g, rfl⟩
    exact least_turn g hd hc
/-! ### maps by leading words -/
theorem act_turn (g : Pm d) (i : Int) : act (turn ps g) i = cj g (act ps i) := by
  have e : (turn ps g).getD (i.natAbs - 1) Pm.one = cj g (ps.getD (i.natAbs - 1) Pm.one) := by
    rw [turn, List.getD_eq_getElem?_getD, List.getD_eq_getElem?_getD, List.getElem?_map]
    cases ps[i.natAbs - 1]? with
    | some p => rfl
    | none => exact Pm.ext fun x => (g.fb x).symm
  unfold act
  rw [e]
  split
  · rfl
  · exact Pm.ext fun x => rfl
theorem wact_turn (g : Pm d) : ∀ (w : List Int) (x : Nat), (wact (turn ps g) w).f (g.f x) = g.f ((wact ps w).f x)
  | [], x => rfl
  | i :: w, x => by
    rw [wact_cons, wact_cons, Pm.mul_f, Pm.mul_f, act_turn, cj_f, wact_turn g w]
/-- where the leading words of ps lead in us, from y -/
def mfun (ps us : List (Pm d)) (y x : Nat) : Nat := (wact us (wordOf (lead (stp ps) (ltrs ps.length) d 0) x)).f y
def isMapF (ps us : List (Pm d)) (F : Nat → Nat) : Prop := ∀ (j : Nat) (p u : Pm d), ps[j]? = some p → us[j]? = some u → ∀ x, x < d → F (p.f x) = u.f (F x)
theorem surj_perm : ∀ {D l : List Nat}, D.Nodup → (∀ x ∈ D, x ∈ l) → l.length ≤ D.length → l.Perm D
  | [], l, _, _, h => by
    have : l = [] := List.length_eq_zero_iff.mp (by simpa using h)
    rw [this]
  | x :: D, l, hn, hm, hl => by
    obtain ⟨h1, h2⟩ := List.nodup_cons.mp hn
    have hx := hm x List.mem_cons_self
    refine (List.perm_cons_erase hx).trans (List.Perm.cons x (surj_perm h2 (fun y hy => ?_) ?_))
    · exact (List.mem_erase_of_ne (fun e => h1 (by rw [← e]; exact hy))).mpr (hm y (List.mem_cons_of_mem _ hy))
    · rw [List.length_erase_of_mem hx]; simp at hl; omega
theorem map_iff (hd : 0 < d) (hl : us.length = ps.length) (hc : (parts ps).length = 1) (hu : (parts us).length = 1) : (∃ y, y < d ∧ isMapF ps us (mfun ps us y)) ↔ ∃ g : Pm d, us = turn ps g := by
  constructor
  · rintro ⟨y, hy, h⟩
    obtain ⟨F, hF⟩ : ∃ F, F = mfun ps us y := ⟨_, rfl⟩
    rw [← hF] at h
    have hlt : ∀ x, F x < d := fun x => by rw [hF]; exact (wact us _).lt hy
    have hS := all_of_conn hd hu (S := fun z => ∃ x, x < d ∧ F x = z) (x := F 0) (fun u hu z hz => by
      obtain ⟨j, hj, rfl⟩ := List.getElem_of_mem hu
      have hp : ps[j]? = some (ps[j]'(by omega)) := List.getElem?_eq_getElem (by omega)
      constructor
      · rintro ⟨w, hw, e⟩
        have hb := (ps[j]'(by omega)).blt hw
        refine ⟨(ps[j]'(by omega)).b w, hb, ?_⟩
        have := h j _ _ hp (List.getElem?_eq_getElem hj) _ hb
        rw [(ps[j]'(by omega)).fb, e] at this
        exact (us[j]).inj this.symm
      · rintro ⟨w, hw, rfl⟩
        exact ⟨(ps[j]'(by omega)).f w, (ps[j]'(by omega)).lt hw, h j _ _ hp (List.getElem?_eq_getElem hj) w hw⟩) (hlt 0) ⟨0, hd, rfl⟩
    have hp : ((List.range d).map F).Perm (List.range d) := surj_perm List.nodup_range (fun z hz => by
      obtain ⟨x, hx, e⟩ := hS z (List.mem_range.mp hz)
      exact List.mem_map.mpr ⟨x, List.mem_range.mpr hx, e⟩) (by simp)
    have hg : ∀ x, x < d → (Pm.ofList _ hp).f x = F x := fun x hx => by
      have := (Pm.ofList _ hp).list_get hx
      rw [Pm.ofList_list, List.getElem?_map, List.getElem?_range hx] at this
      exact (Option.some.inj this).symm
    refine ⟨Pm.ofList _ hp, List.ext_getElem (by rw [turn_len, hl]) fun j h1 h2 => ?_⟩
    have hj : j < ps.length := by omega
    rw [show (turn ps (Pm.ofList _ hp))[j] = cj (Pm.ofList _ hp) ps[j] by simp [turn, cj]]
    refine Pm.ext fun z => ?_
    by_cases hz : z < d
    · obtain ⟨x, hx, rfl⟩ := hS z hz
      rw [← hg x hx, cj_f, hg _ (ps[j].lt hx), hg x hx]
      exact (h j _ _ (List.getElem?_eq_getElem hj) (List.getElem?_eq_getElem h1) x hx).symm
    · rw [(us[j]).out z (by omega), Pm.out _ z (by omega)]
  · rintro ⟨g, rfl⟩
    have hF : ∀ x, x < d → mfun ps (turn ps g) (g.f 0) x = g.f x := fun x hx => by
      have h := (lead_ok (s := stp ps) (Ls := ltrs ps.length) stp_lt hd).1
      have h1 := h.at' _ (wordOf_mem (lead_all hc hd x hx))
      rw [nd_wact] at h1
      rw [mfun, wact_turn, h1]
    refine ⟨g.f 0, g.lt hd, fun j p u hp hu x hx => ?_⟩
    rw [turn, List.getElem?_map, hp] at hu
    cases hu
    rw [hF _ (p.lt hx), hF x hx]
    exact (cj_f g p x).symm
/-! ### all permutations, listed -/
def lvlP (d : Nat) : Nat → List (List Nat)
  | 0 => [[]]
  | n + 1 => (lvlP d n).flatMap fun r => ((List.range d).filter fun x => !decide (x ∈ r)).map fun x => r ++ [x]
theorem lvlP_mem : ∀ {n : Nat} {l : List Nat}, l ∈ lvlP d n ↔ l.length = n ∧ l.Nodup ∧ ∀ x ∈ l, x < d
  | 0, l => by
    rw [lvlP, List.mem_singleton]
    exact ⟨fun h => by subst h; simp, fun h => List.length_eq_zero_iff.mp h.1⟩
  | n + 1, l => by
    rw [lvlP, List.mem_flatMap]
    constructor
    · rintro ⟨r, hr, hl⟩
      obtain ⟨x, hx, rfl⟩ := List.mem_map.mp hl
      obtain ⟨h1, h2, h3⟩ := lvlP_mem.mp hr
      rw [List.mem_filter] at hx
      have hx2 : x ∉ r := by simpa using hx.2
      refine ⟨by simp [h1], nodup_snoc h2 hx2, fun y hy => ?_⟩
      rcases List.mem_append.mp hy with hy | hy
      · exact h3 y hy
      · rw [List.mem_singleton] at hy; subst hy; exact List.mem_range.mp hx.1
    · rintro ⟨h1, h2, h3⟩
      have hne : l ≠ [] := fun e => by rw [e] at h1; simp at h1
      have e := List.dropLast_concat_getLast hne
      rw [← e] at h1 h2 h3
      have hn := List.nodup_append.mp h2
      refine ⟨l.dropLast, lvlP_mem.mpr ⟨by simpa using h1, hn.1, fun y hy => h3 y (List.mem_append_left _ hy)⟩, List.mem_map.mpr ⟨l.getLast hne, List.mem_filter.mpr ⟨List.mem_range.mpr (h3 _ (by simp)), ?_⟩, e⟩⟩
      have : l.getLast hne ∉ l.dropLast := fun z => hn.2.2 _ z _ (by simp) rfl
      simpa using this
theorem lvlP_pm (g : Pm d) : g.list ∈ lvlP d d := by
  have hp := range_perm g
  rw [lvlP_mem]
  refine ⟨g.len, hp.nodup_iff.mpr List.nodup_range, fun x hx => List.mem_range.mp (hp.mem_iff.mp hx)⟩
theorem lvlP_get {l : List Nat} (h : l ∈ lvlP d d) : ∃ g : Pm d, g.list = l := by
  obtain ⟨h1, h2, h3⟩ := lvlP_mem.mp h
  exact ⟨Pm.ofList l (nodup_perm h2 List.nodup_range (fun x hx => List.mem_range.mpr (h3 x hx)) (by simp [h1])), Pm.ofList_list _⟩
end Fx

set_option Elab.async false
set_option linter.all false
set_option maxRecDepth 100000
set_option maxHeartbeats 4000000
namespace Fx
open PySem L2
/-! ### the dict of the places -/
def kvN : Nat → List Nat → List (Key × D)
  | _, [] => []
  | j, y :: O => (.inl (y : Int), .int (j : Int)) :: kvN (j + 1) O
theorem kvN_snoc {y : Nat} : ∀ (O : List Nat) (j : Nat), kvN j (O ++ [y]) = kvN j O ++ [(.inl (y : Int), .int ((j + O.length : Nat) : Int))]
  | [], j => by simp [kvN]
  | a :: O, j => by
    have e : j + 1 + O.length = j + (O.length + 1) := by omega
    simp only [List.cons_append, kvN, kvN_snoc O (j + 1), List.length_cons, e]
theorem kvN_len : ∀ (O : List Nat) (j : Nat), (kvN j O).length = O.length
  | [], _ => rfl
  | a :: O, j => by simp [kvN, kvN_len O (j + 1)]
theorem valD_kvN {y : Nat} : ∀ (O : List Nat) (j : Nat), valD (kvN j O) (.inl (y : Int)) = if y ∈ O then some (.int ((j + O.idxOf y : Nat) : Int)) else none
  | [], _ => rfl
  | a :: O, j => by
    have ih := valD_kvN (y := y) O (j + 1)
    by_cases h : a = y
    · subst h
      rw [if_pos (by simp)]
      simp [valD, kvN]
    · have h' : ¬ (a : Int) = (y : Int) := by omega
      have hm : (y ∈ a :: O) = (y ∈ O) := by
        rw [List.mem_cons]
        exact propext ⟨fun z => z.elim (fun z => absurd z.symm h) id, .inr⟩
      have hi : (a :: O).idxOf y = O.idxOf y + 1 := by
        rw [List.idxOf_cons]
        have : (a == y) = false := by simpa using h
        rw [this]; rfl
      simp only [hm, hi]
      rw [show j + (O.idxOf y + 1) = j + 1 + O.idxOf y by omega, ← ih]
      simp only [valD, kvN, List.find?_cons, Sum.inl.injEq, h', decide_false]
theorem any_kvN {y : Nat} : ∀ {O : List Nat} {j : Nat}, y ∉ O → ((kvN j O).any fun kv => decide (kv.1 = Sum.inl (y : Int))) = false
  | [], _, _ => rfl
  | a :: O, j, h => by
    have h' : ¬ (a : Int) = (y : Int) := fun z => h (by rw [show y = a by omega]; simp)
    simp only [kvN, List.any_cons, Sum.inl.injEq, h', decide_false, Bool.false_or]
    exact any_kvN fun z => h (List.mem_cons_of_mem _ z)
section
variable {st : Store} {L y : Nat} {O : List Nat}
theorem kvN_in (h : st[L]? = some (.dk (kvN 0 O))) : fDIn false (nD y) (.loc L) st = .ok (.bl (!decide (y ∈ O))) st := by
  refine fDIn_not ?_
  unfold fDIn dGet
  simp only [h, nD, Fx.keyOf, valD_kvN]
  by_cases c : y ∈ O
  · rw [if_pos c, decide_eq_true c]
  · rw [if_neg c, decide_eq_false c]; rfl
theorem kvN_get (h : st[L]? = some (.dk (kvN 0 O))) (hy : y ∈ O) : fDGet (.loc L) (nD y) st = .ok (nD (O.idxOf y)) st := by
  unfold fDGet dGet
  simp only [h, nD, Fx.keyOf, valD_kvN]
  rw [if_pos hy, Nat.zero_add]
theorem kvN_set (h : st[L]? = some (.dk (kvN 0 O))) (hy : y ∉ O) (hl : O.length ≤ 900) : fSetD (.loc L) (nD y) (nD O.length) st = some (st.set L (.dk (kvN 0 (O ++ [y])))) := by
  unfold fSetD
  simp only [h, nD, Fx.keyOf]
  rw [if_pos (szFits_of1 (by rw [kvN_len]; omega)), putD_new (any_kvN hy), kvN_snoc, Nat.zero_add]
end
theorem num_b {d : Nat} {ps : List (Pm d)} {x y : Nat} (hc : (parts ps).length = 1) (hx : x < d) (hy : y < d) : (ordr ps x).idxOf y = (num ps x).b y := by
  rw [num, dif_pos (ordr_perm hc hx)]
  show _ = if y ∈ ordr ps x then (ordr ps x).idxOf y else y
  rw [if_pos (ordr_all hc hx y hy)]
end Fx

set_option Elab.async false
set_option linter.all false
set_option maxRecDepth 100000
set_option maxHeartbeats 4000000
namespace K25
open PySem L2 Fx
def top (i : Nat) : Stmt := PySem.Challenge.pw_branchsheets_k25_systems_to_their_bounds.main.body.getD i (.Pass ⟨0, 0, 0, 0⟩)
abbrev s_law_state : Stmt := top 40
abbrev N_law_state : List Str := ["script", "seed", "total", "cell"]
theorem sc_law_state : FnScope N_law_state ["script"] (defScope s_law_state) := ⟨rfl, rfl, rfl, by decide +kernel, rfl, by decide +kernel, by decide +kernel⟩
abbrev s_law_take : Stmt := top 41
abbrev N_law_take : List Str := ["state", "m", "value"]
theorem sc_law_take : FnScope N_law_take ["state", "m"] (defScope s_law_take) := ⟨rfl, rfl, rfl, by decide +kernel, rfl, by decide +kernel, by decide +kernel⟩
abbrev s_law_inverse : Stmt := top 42
abbrev N_law_inverse : List Str := ["p", "found", "x"]
theorem sc_law_inverse : FnScope N_law_inverse ["p"] (defScope s_law_inverse) := ⟨rfl, rfl, rfl, by decide +kernel, rfl, by decide +kernel, by decide +kernel⟩
abbrev s_law_permutation : Stmt := top 43
abbrev N_law_permutation : List Str := ["state", "d", "left", "found"]
theorem sc_law_permutation : FnScope N_law_permutation ["state", "d"] (defScope s_law_permutation) := ⟨rfl, rfl, rfl, by decide +kernel, rfl, by decide +kernel, by decide +kernel⟩
abbrev s_law_system : Stmt := top 44
abbrev N_law_system : List Str := ["state", "d", "k", "perms", "turn", "pick", "a", "b", "x"]
theorem sc_law_system : FnScope N_law_system ["state", "d", "k"] (defScope s_law_system) := ⟨rfl, rfl, rfl, by decide +kernel, rfl, by decide +kernel, by decide +kernel⟩
abbrev s_law_parts : Stmt := top 45
abbrev N_law_parts : List Str := ["S", "d", "perms", "seen", "found", "x", "part", "at", "p", "y"]
theorem sc_law_parts : FnScope N_law_parts ["S"] (defScope s_law_parts) := ⟨rfl, rfl, rfl, by decide +kernel, rfl, by decide +kernel, by decide +kernel⟩
abbrev s_law_is_connected : Stmt := top 48
abbrev N_law_is_connected : List Str := ["S"]
theorem sc_law_is_connected : FnScope N_law_is_connected ["S"] (defScope s_law_is_connected) := ⟨rfl, rfl, rfl, by decide +kernel, rfl, by decide +kernel, by decide +kernel⟩
abbrev s_law_inner : Stmt := top 38
abbrev N_law_inner : List Str := ["value", "item"]
theorem sc_law_inner : FnScope N_law_inner ["value"] (defScope s_law_inner) := ⟨rfl, rfl, rfl, by decide +kernel, rfl, by decide +kernel, by decide +kernel⟩
abbrev s_law_plain : Stmt := top 39
abbrev N_law_plain : List Str := ["value"]
theorem sc_law_plain : FnScope N_law_plain ["value"] (defScope s_law_plain) := ⟨rfl, rfl, rfl, by decide +kernel, rfl, by decide +kernel, by decide +kernel⟩
abbrev s_law_product : Stmt := top 56
abbrev N_law_product : List Str := ["p", "q", "y"]
theorem sc_law_product : FnScope N_law_product ["p", "q"] (defScope s_law_product) := ⟨rfl, rfl, rfl, by decide +kernel, rfl, by decide +kernel, by decide +kernel⟩
abbrev s_is_integer : Stmt := top 4
abbrev N_is_integer : List Str := ["value"]
theorem sc_is_integer : FnScope N_is_integer ["value"] (defScope s_is_integer) := ⟨rfl, rfl, rfl, by decide +kernel, rfl, by decide +kernel, by decide +kernel⟩
abbrev s_is_permutation : Stmt := top 6
abbrev N_is_permutation : List Str := ["value", "seen", "y"]
theorem sc_is_permutation : FnScope N_is_permutation ["value"] (defScope s_is_permutation) := ⟨rfl, rfl, rfl, by decide +kernel, rfl, by decide +kernel, by decide +kernel⟩
abbrev s_is_system : Stmt := top 17
abbrev N_is_system : List Str := ["value", "d", "perms", "p"]
theorem sc_is_system : FnScope N_is_system ["value"] (defScope s_is_system) := ⟨rfl, rfl, rfl, by decide +kernel, rfl, by decide +kernel, by decide +kernel⟩
abbrev s_check_system : Stmt := top 18
abbrev N_check_system : List Str := ["S"]
theorem sc_check_system : FnScope N_check_system ["S"] (defScope s_check_system) := ⟨rfl, rfl, rfl, by decide +kernel, rfl, by decide +kernel, by decide +kernel⟩
abbrev s_check_permutation : Stmt := top 7
abbrev N_check_permutation : List Str := ["p"]
theorem sc_check_permutation : FnScope N_check_permutation ["p"] (defScope s_check_permutation) := ⟨rfl, rfl, rfl, by decide +kernel, rfl, by decide +kernel, by decide +kernel⟩
abbrev s_rounds : Stmt := top 10
abbrev N_rounds : List Str := ["p", "seen", "found", "x", "cycle", "y"]
theorem sc_rounds : FnScope N_rounds ["p"] (defScope s_rounds) := ⟨rfl, rfl, rfl, by decide +kernel, rfl, by decide +kernel, by decide +kernel⟩
abbrev s_type_of : Stmt := top 11
abbrev N_type_of : List Str := ["p", "cycle"]
theorem sc_type_of : FnScope N_type_of ["p"] (defScope s_type_of) := ⟨rfl, rfl, rfl, by decide +kernel, rfl, by decide +kernel, by decide +kernel⟩
abbrev s_cycle_type : Stmt := top 12
abbrev N_cycle_type : List Str := ["p"]
theorem sc_cycle_type : FnScope N_cycle_type ["p"] (defScope s_cycle_type) := ⟨rfl, rfl, rfl, by decide +kernel, rfl, by decide +kernel, by decide +kernel⟩
abbrev s_datum_of : Stmt := top 30
abbrev N_datum_of : List Str := ["S", "p"]
theorem sc_datum_of : FnScope N_datum_of ["S"] (defScope s_datum_of) := ⟨rfl, rfl, rfl, by decide +kernel, rfl, by decide +kernel, by decide +kernel⟩
abbrev s_is_word : Stmt := top 24
abbrev N_is_word : List Str := ["value", "k", "letter"]
theorem sc_is_word : FnScope N_is_word ["value", "k"] (defScope s_is_word) := ⟨rfl, rfl, rfl, by decide +kernel, rfl, by decide +kernel, by decide +kernel⟩
abbrev s_check_word : Stmt := top 25
abbrev N_check_word : List Str := ["w", "k"]
theorem sc_check_word : FnScope N_check_word ["w", "k"] (defScope s_check_word) := ⟨rfl, rfl, rfl, by decide +kernel, rfl, by decide +kernel, by decide +kernel⟩
abbrev s_undone : Stmt := top 8
abbrev N_undone : List Str := ["p", "found", "x", "y"]
theorem sc_undone : FnScope N_undone ["p"] (defScope s_undone) := ⟨rfl, rfl, rfl, by decide +kernel, rfl, by decide +kernel, by decide +kernel⟩
abbrev s_inverse_of : Stmt := top 9
abbrev N_inverse_of : List Str := ["p"]
theorem sc_inverse_of : FnScope N_inverse_of ["p"] (defScope s_inverse_of) := ⟨rfl, rfl, rfl, by decide +kernel, rfl, by decide +kernel, by decide +kernel⟩
abbrev s_letter_tables : Stmt := top 26
abbrev N_letter_tables : List Str := ["S", "found", "k", "p"]
theorem sc_letter_tables : FnScope N_letter_tables ["S"] (defScope s_letter_tables) := ⟨rfl, rfl, rfl, by decide +kernel, rfl, by decide +kernel, by decide +kernel⟩
abbrev s_led_along : Stmt := top 27
abbrev N_led_along : List Str := ["tables", "x", "w", "letter"]
theorem sc_led_along : FnScope N_led_along ["tables", "x", "w"] (defScope s_led_along) := ⟨rfl, rfl, rfl, by decide +kernel, rfl, by decide +kernel, by decide +kernel⟩
abbrev s_word_permutation : Stmt := top 28
abbrev N_word_permutation : List Str := ["S", "w", "tables", "x"]
theorem sc_word_permutation : FnScope N_word_permutation ["S", "w"] (defScope s_word_permutation) := ⟨rfl, rfl, rfl, by decide +kernel, rfl, by decide +kernel, by decide +kernel⟩
abbrev s_law_letters : Stmt := top 52
abbrev N_law_letters : List Str := ["k", "found", "i"]
theorem sc_law_letters : FnScope N_law_letters ["k"] (defScope s_law_letters) := ⟨rfl, rfl, rfl, by decide +kernel, rfl, by decide +kernel, by decide +kernel⟩
abbrev s_law_word : Stmt := top 57
abbrev N_law_word : List Str := ["state", "k", "most", "letters", "turn"]
theorem sc_law_word : FnScope N_law_word ["state", "k", "most"] (defScope s_law_word) := ⟨rfl, rfl, rfl, by decide +kernel, rfl, by decide +kernel, by decide +kernel⟩
abbrev s_told_system : Stmt := top 36
abbrev N_told_system : List Str := ["S", "words", "tables", "w", "x"]
theorem sc_told_system : FnScope N_told_system ["S", "words"] (defScope s_told_system) := ⟨rfl, rfl, rfl, by decide +kernel, rfl, by decide +kernel, by decide +kernel⟩
abbrev s_found_parts : Stmt := top 21
abbrev N_found_parts : List Str := ["S", "parts", "seen", "first", "part", "at", "p", "y"]
theorem sc_found_parts : FnScope N_found_parts ["S"] (defScope s_found_parts) := ⟨rfl, rfl, rfl, by decide +kernel, rfl, by decide +kernel, by decide +kernel⟩
abbrev s_system_parts : Stmt := top 29
abbrev N_system_parts : List Str := ["S"]
theorem sc_system_parts : FnScope N_system_parts ["S"] (defScope s_system_parts) := ⟨rfl, rfl, rfl, by decide +kernel, rfl, by decide +kernel, by decide +kernel⟩
abbrev s_law_cycles : Stmt := top 46
abbrev N_law_cycles : List Str := ["p", "seen", "found", "x", "cycle", "y"]
theorem sc_law_cycles : FnScope N_law_cycles ["p"] (defScope s_law_cycles) := ⟨rfl, rfl, rfl, by decide +kernel, rfl, by decide +kernel, by decide +kernel⟩
abbrev s_law_type : Stmt := top 47
abbrev N_law_type : List Str := ["p", "cycle"]
theorem sc_law_type : FnScope N_law_type ["p"] (defScope s_law_type) := ⟨rfl, rfl, rfl, by decide +kernel, rfl, by decide +kernel, by decide +kernel⟩
abbrev s_law_renumbered : Stmt := top 49
abbrev N_law_renumbered : List Str := ["p", "f", "found", "x"]
theorem sc_law_renumbered : FnScope N_law_renumbered ["p", "f"] (defScope s_law_renumbered) := ⟨rfl, rfl, rfl, by decide +kernel, rfl, by decide +kernel, by decide +kernel⟩
abbrev s_law_turned_system : Stmt := top 50
abbrev N_law_turned_system : List Str := ["S", "f", "p"]
theorem sc_law_turned_system : FnScope N_law_turned_system ["S", "f"] (defScope s_law_turned_system) := ⟨rfl, rfl, rfl, by decide +kernel, rfl, by decide +kernel, by decide +kernel⟩
abbrev s_law_numbered : Stmt := top 51
abbrev N_law_numbered : List Str := ["S", "x", "names", "order", "at", "p", "y"]
theorem sc_law_numbered : FnScope N_law_numbered ["S", "x"] (defScope s_law_numbered) := ⟨rfl, rfl, rfl, by decide +kernel, rfl, by decide +kernel, by decide +kernel⟩
abbrev s_law_step : Stmt := top 53
abbrev N_law_step : List Str := ["S", "x", "i", "p"]
theorem sc_law_step : FnScope N_law_step ["S", "x", "i"] (defScope s_law_step) := ⟨rfl, rfl, rfl, by decide +kernel, rfl, by decide +kernel, by decide +kernel⟩
abbrev s_law_leading : Stmt := top 54
abbrev N_law_leading : List Str := ["S", "x", "found", "order", "letters", "at", "i", "y"]
theorem sc_law_leading : FnScope N_law_leading ["S", "x"] (defScope s_law_leading) := ⟨rfl, rfl, rfl, by decide +kernel, rfl, by decide +kernel, by decide +kernel⟩
abbrev s_law_least : Stmt := top 55
abbrev N_law_least : List Str := ["S", "x"]
theorem sc_law_least : FnScope N_law_least ["S"] (defScope s_law_least) := ⟨rfl, rfl, rfl, by decide +kernel, rfl, by decide +kernel, by decide +kernel⟩
abbrev s_has_one_part : Stmt := top 22
abbrev N_has_one_part : List Str := ["S"]
theorem sc_has_one_part : FnScope N_has_one_part ["S"] (defScope s_has_one_part) := ⟨rfl, rfl, rfl, by decide +kernel, rfl, by decide +kernel, by decide +kernel⟩
abbrev s_check_connected : Stmt := top 23
abbrev N_check_connected : List Str := ["S"]
theorem sc_check_connected : FnScope N_check_connected ["S"] (defScope s_check_connected) := ⟨rfl, rfl, rfl, by decide +kernel, rfl, by decide +kernel, by decide +kernel⟩
abbrev s_is_sheet : Stmt := top 19
abbrev N_is_sheet : List Str := ["value", "S"]
theorem sc_is_sheet : FnScope N_is_sheet ["value", "S"] (defScope s_is_sheet) := ⟨rfl, rfl, rfl, by decide +kernel, rfl, by decide +kernel, by decide +kernel⟩
abbrev s_check_sheet : Stmt := top 20
abbrev N_check_sheet : List Str := ["x", "S"]
theorem sc_check_sheet : FnScope N_check_sheet ["x", "S"] (defScope s_check_sheet) := ⟨rfl, rfl, rfl, by decide +kernel, rfl, by decide +kernel, by decide +kernel⟩
abbrev s_counted_from : Stmt := top 31
abbrev N_counted_from : List Str := ["S", "x", "order", "place", "at", "p", "y"]
theorem sc_counted_from : FnScope N_counted_from ["S", "x"] (defScope s_counted_from) := ⟨rfl, rfl, rfl, by decide +kernel, rfl, by decide +kernel, by decide +kernel⟩
abbrev s_numbered_from : Stmt := top 32
abbrev N_numbered_from : List Str := ["S", "x"]
theorem sc_numbered_from : FnScope N_numbered_from ["S", "x"] (defScope s_numbered_from) := ⟨rfl, rfl, rfl, by decide +kernel, rfl, by decide +kernel, by decide +kernel⟩
abbrev s_words_from : Stmt := top 34
abbrev N_words_from : List Str := ["S", "x", "tables", "letters", "k", "found", "order", "at", "letter", "y"]
theorem sc_words_from : FnScope N_words_from ["S", "x"] (defScope s_words_from) := ⟨rfl, rfl, rfl, by decide +kernel, rfl, by decide +kernel, by decide +kernel⟩
abbrev s_leading_words : Stmt := top 35
abbrev N_leading_words : List Str := ["S", "x"]
theorem sc_leading_words : FnScope N_leading_words ["S", "x"] (defScope s_leading_words) := ⟨rfl, rfl, rfl, by decide +kernel, rfl, by decide +kernel, by decide +kernel⟩
abbrev s_least_system : Stmt := top 33
abbrev N_least_system : List Str := ["S", "x"]
theorem sc_least_system : FnScope N_least_system ["S"] (defScope s_least_system) := ⟨rfl, rfl, rfl, by decide +kernel, rfl, by decide +kernel, by decide +kernel⟩
abbrev s_law_walk : Stmt := top 58
abbrev N_law_walk : List Str := ["S", "x", "w", "i"]
theorem sc_law_walk : FnScope N_law_walk ["S", "x", "w"] (defScope s_law_walk) := ⟨rfl, rfl, rfl, by decide +kernel, rfl, by decide +kernel, by decide +kernel⟩
abbrev s_law : Stmt := top 59
abbrev N_law : List Str := ["script", "state", "d", "k", "S", "x", "word", "step", "i", "due", "turn", "words", "perms", "w", "p"]
theorem sc_law : FnScope N_law ["script"] (defScope s_law) := ⟨rfl, rfl, rfl, by decide +kernel, rfl, by decide +kernel, by decide +kernel⟩
/-- what stands in the module -/
structure Txt (K : PySem.W.Frag) (mg : Str → Option Value) (A : Nat → Addr) (fd : Nat → FuncData) : Prop where
  m_law_state : mg "_law_state" = some (.ref (A 40))
  F_law_state : Fun K "_law_state" "_law_state" s_law_state (A 40) (fd 40)
  m_law_take : mg "_law_take" = some (.ref (A 41))
  F_law_take : Fun K "_law_take" "_law_take" s_law_take (A 41) (fd 41)
  m_law_inverse : mg "_law_inverse" = some (.ref (A 42))
  F_law_inverse : Fun K "_law_inverse" "_law_inverse" s_law_inverse (A 42) (fd 42)
  m_law_permutation : mg "_law_permutation" = some (.ref (A 43))
  F_law_permutation : Fun K "_law_permutation" "_law_permutation" s_law_permutation (A 43) (fd 43)
  m_law_system : mg "_law_system" = some (.ref (A 44))
  F_law_system : Fun K "_law_system" "_law_system" s_law_system (A 44) (fd 44)
  m_law_parts : mg "_law_parts" = some (.ref (A 45))
  F_law_parts : Fun K "_law_parts" "_law_parts" s_law_parts (A 45) (fd 45)
  m_law_is_connected : mg "_law_is_connected" = some (.ref (A 48))
  F_law_is_connected : Fun K "_law_is_connected" "_law_is_connected" s_law_is_connected (A 48) (fd 48)
  m_law_inner : mg "_law_inner" = some (.ref (A 38))
  F_law_inner : Fun K "_law_inner" "_law_inner" s_law_inner (A 38) (fd 38)
  m_law_plain : mg "_law_plain" = some (.ref (A 39))
  F_law_plain : Fun K "_law_plain" "_law_plain" s_law_plain (A 39) (fd 39)
  m_law_product : mg "_law_product" = some (.ref (A 56))
  F_law_product : Fun K "_law_product" "_law_product" s_law_product (A 56) (fd 56)
  m_is_integer : mg "is_integer" = some (.ref (A 4))
  F_is_integer : Fun K "is_integer" "is_integer" s_is_integer (A 4) (fd 4)
  m_is_permutation : mg "is_permutation" = some (.ref (A 6))
  F_is_permutation : Fun K "is_permutation" "is_permutation" s_is_permutation (A 6) (fd 6)
  m_is_system : mg "is_system" = some (.ref (A 17))
  F_is_system : Fun K "is_system" "is_system" s_is_system (A 17) (fd 17)
  m_check_system : mg "check_system" = some (.ref (A 18))
  F_check_system : Fun K "check_system" "check_system" s_check_system (A 18) (fd 18)
  m_check_permutation : mg "check_permutation" = some (.ref (A 7))
  F_check_permutation : Fun K "check_permutation" "check_permutation" s_check_permutation (A 7) (fd 7)
  m_rounds : mg "rounds" = some (.ref (A 10))
  F_rounds : Fun K "rounds" "rounds" s_rounds (A 10) (fd 10)
  m_type_of : mg "type_of" = some (.ref (A 11))
  F_type_of : Fun K "type_of" "type_of" s_type_of (A 11) (fd 11)
  m_cycle_type : mg "cycle_type" = some (.ref (A 12))
  F_cycle_type : Fun K "cycle_type" "cycle_type" s_cycle_type (A 12) (fd 12)
  m_datum_of : mg "datum_of" = some (.ref (A 30))
  F_datum_of : Fun K "datum_of" "datum_of" s_datum_of (A 30) (fd 30)
  m_is_word : mg "is_word" = some (.ref (A 24))
  F_is_word : Fun K "is_word" "is_word" s_is_word (A 24) (fd 24)
  m_check_word : mg "check_word" = some (.ref (A 25))
  F_check_word : Fun K "check_word" "check_word" s_check_word (A 25) (fd 25)
  m_undone : mg "undone" = some (.ref (A 8))
  F_undone : Fun K "undone" "undone" s_undone (A 8) (fd 8)
  m_inverse_of : mg "inverse_of" = some (.ref (A 9))
  F_inverse_of : Fun K "inverse_of" "inverse_of" s_inverse_of (A 9) (fd 9)
  m_letter_tables : mg "letter_tables" = some (.ref (A 26))
  F_letter_tables : Fun K "letter_tables" "letter_tables" s_letter_tables (A 26) (fd 26)
  m_led_along : mg "led_along" = some (.ref (A 27))
  F_led_along : Fun K "led_along" "led_along" s_led_along (A 27) (fd 27)
  m_word_permutation : mg "word_permutation" = some (.ref (A 28))
  F_word_permutation : Fun K "word_permutation" "word_permutation" s_word_permutation (A 28) (fd 28)
  m_law_letters : mg "_law_letters" = some (.ref (A 52))
  F_law_letters : Fun K "_law_letters" "_law_letters" s_law_letters (A 52) (fd 52)
  m_law_word : mg "_law_word" = some (.ref (A 57))
  F_law_word : Fun K "_law_word" "_law_word" s_law_word (A 57) (fd 57)
  m_told_system : mg "told_system" = some (.ref (A 36))
  F_told_system : Fun K "told_system" "told_system" s_told_system (A 36) (fd 36)
  m_found_parts : mg "found_parts" = some (.ref (A 21))
  F_found_parts : Fun K "found_parts" "found_parts" s_found_parts (A 21) (fd 21)
  m_system_parts : mg "system_parts" = some (.ref (A 29))
  F_system_parts : Fun K "system_parts" "system_parts" s_system_parts (A 29) (fd 29)
  m_law_cycles : mg "_law_cycles" = some (.ref (A 46))
  F_law_cycles : Fun K "_law_cycles" "_law_cycles" s_law_cycles (A 46) (fd 46)
  m_law_type : mg "_law_type" = some (.ref (A 47))
  F_law_type : Fun K "_law_type" "_law_type" s_law_type (A 47) (fd 47)
  m_law_renumbered : mg "_law_renumbered" = some (.ref (A 49))
  F_law_renumbered : Fun K "_law_renumbered" "_law_renumbered" s_law_renumbered (A 49) (fd 49)
  m_law_turned_system : mg "_law_turned_system" = some (.ref (A 50))
  F_law_turned_system : Fun K "_law_turned_system" "_law_turned_system" s_law_turned_system (A 50) (fd 50)
  m_law_numbered : mg "_law_numbered" = some (.ref (A 51))
  F_law_numbered : Fun K "_law_numbered" "_law_numbered" s_law_numbered (A 51) (fd 51)
  m_law_step : mg "_law_step" = some (.ref (A 53))
  F_law_step : Fun K "_law_step" "_law_step" s_law_step (A 53) (fd 53)
  m_law_leading : mg "_law_leading" = some (.ref (A 54))
  F_law_leading : Fun K "_law_leading" "_law_leading" s_law_leading (A 54) (fd 54)
  m_law_least : mg "_law_least" = some (.ref (A 55))
  F_law_least : Fun K "_law_least" "_law_least" s_law_least (A 55) (fd 55)
  m_has_one_part : mg "has_one_part" = some (.ref (A 22))
  F_has_one_part : Fun K "has_one_part" "has_one_part" s_has_one_part (A 22) (fd 22)
  m_check_connected : mg "check_connected" = some (.ref (A 23))
  F_check_connected : Fun K "check_connected" "check_connected" s_check_connected (A 23) (fd 23)
  m_is_sheet : mg "is_sheet" = some (.ref (A 19))
  F_is_sheet : Fun K "is_sheet" "is_sheet" s_is_sheet (A 19) (fd 19)
  m_check_sheet : mg "check_sheet" = some (.ref (A 20))
  F_check_sheet : Fun K "check_sheet" "check_sheet" s_check_sheet (A 20) (fd 20)
  m_counted_from : mg "counted_from" = some (.ref (A 31))
  F_counted_from : Fun K "counted_from" "counted_from" s_counted_from (A 31) (fd 31)
  m_numbered_from : mg "numbered_from" = some (.ref (A 32))
  F_numbered_from : Fun K "numbered_from" "numbered_from" s_numbered_from (A 32) (fd 32)
  m_words_from : mg "words_from" = some (.ref (A 34))
  F_words_from : Fun K "words_from" "words_from" s_words_from (A 34) (fd 34)
  m_leading_words : mg "leading_words" = some (.ref (A 35))
  F_leading_words : Fun K "leading_words" "leading_words" s_leading_words (A 35) (fd 35)
  m_least_system : mg "least_system" = some (.ref (A 33))
  F_least_system : Fun K "least_system" "least_system" s_least_system (A 33) (fd 33)
  m_law_walk : mg "_law_walk" = some (.ref (A 58))
  F_law_walk : Fun K "_law_walk" "_law_walk" s_law_walk (A 58) (fd 58)
  m_law : mg "law" = some (.ref (A 59))
  F_law : Fun K "law" "law" s_law (A 59) (fd 59)
  z_abs : mg "abs" = none
  z_all : mg "all" = none
  z_bool : mg "bool" = none
  z_enumerate : mg "enumerate" = none
  z_int : mg "int" = none
  z_isinstance : mg "isinstance" = none
  z_len : mg "len" = none
  z_list : mg "list" = none
  z_min : mg "min" = none
  z_range : mg "range" = none
  z_sorted : mg "sorted" = none
  z_str : mg "str" = none
  z_tuple : mg "tuple" = none
  c_MOST_LETTERS : ∃ t, mg "MOST_LETTERS" = some (.int 2000 t)
  c_MOST_RANK : ∃ t, mg "MOST_RANK" = some (.int 12 t)
  c_MOST_SHEETS : ∃ t, mg "MOST_SHEETS" = some (.int 24 t)
  m_Malformed : mg "Malformed" = some (.ref (A 2))
  q_Malformed : PySem.W.excIn K (A 2) [.type "ValueError", .type "Exception", .type "BaseException", .type "object"] "ValueError.__new__" = true
  k_Malformed : PySem.W.keepIn K (.ref (A 2)) = true
  b_Malformed : PySem.W.subIn K (.ref (A 2)) (.type "BaseException") = some true
  t_Malformed : PySem.W.typeIn K (.ref (A 2)) = some (.type "type")
section
variable {P : Program} {w : World} {K : PySem.W.Frag} {mg : Str → Option Value} {base : Heap} {A : Nat → Addr} {fd : Nat → FuncData}
theorem b_law_state (T : Txt K mg A fd) : Binds K (fd 40) ["script"] [] := T.F_law_state.binds fun _ _ _ _ _ _ us hl => match us, hl with | [_], _ => rfl
theorem b_law_take (T : Txt K mg A fd) : Binds K (fd 41) ["state", "m"] [] := T.F_law_take.binds fun _ _ _ _ _ _ us hl => match us, hl with | [_, _], _ => rfl
theorem b_law_inverse (T : Txt K mg A fd) : Binds K (fd 42) ["p"] [] := T.F_law_inverse.binds fun _ _ _ _ _ _ us hl => match us, hl with | [_], _ => rfl
theorem b_law_permutation (T : Txt K mg A fd) : Binds K (fd 43) ["state", "d"] [] := T.F_law_permutation.binds fun _ _ _ _ _ _ us hl => match us, hl with | [_, _], _ => rfl
theorem b_law_system (T : Txt K mg A fd) : Binds K (fd 44) ["state", "d", "k"] [] := T.F_law_system.binds fun _ _ _ _ _ _ us hl => match us, hl with | [_, _, _], _ => rfl
theorem b_law_parts (T : Txt K mg A fd) : Binds K (fd 45) ["S"] [] := T.F_law_parts.binds fun _ _ _ _ _ _ us hl => match us, hl with | [_], _ => rfl
theorem b_law_is_connected (T : Txt K mg A fd) : Binds K (fd 48) ["S"] [] := T.F_law_is_connected.binds fun _ _ _ _ _ _ us hl => match us, hl with | [_], _ => rfl
theorem b_law_inner (T : Txt K mg A fd) : Binds K (fd 38) ["value"] [] := T.F_law_inner.binds fun _ _ _ _ _ _ us hl => match us, hl with | [_], _ => rfl
theorem b_law_plain (T : Txt K mg A fd) : Binds K (fd 39) ["value"] [] := T.F_law_plain.binds fun _ _ _ _ _ _ us hl => match us, hl with | [_], _ => rfl
theorem b_law_product (T : Txt K mg A fd) : Binds K (fd 56) ["p", "q"] [] := T.F_law_product.binds fun _ _ _ _ _ _ us hl => match us, hl with | [_, _], _ => rfl
theorem b_is_integer (T : Txt K mg A fd) : Binds K (fd 4) ["value"] [] := T.F_is_integer.binds fun _ _ _ _ _ _ us hl => match us, hl with | [_], _ => rfl
theorem b_is_permutation (T : Txt K mg A fd) : Binds K (fd 6) ["value"] [] := T.F_is_permutation.binds fun _ _ _ _ _ _ us hl => match us, hl with | [_], _ => rfl
theorem b_is_system (T : Txt K mg A fd) : Binds K (fd 17) ["value"] [] := T.F_is_system.binds fun _ _ _ _ _ _ us hl => match us, hl with | [_], _ => rfl
theorem b_check_system (T : Txt K mg A fd) : Binds K (fd 18) ["S"] [] := T.F_check_system.binds fun _ _ _ _ _ _ us hl => match us, hl with | [_], _ => rfl
theorem b_check_permutation (T : Txt K mg A fd) : Binds K (fd 7) ["p"] [] := T.F_check_permutation.binds fun _ _ _ _ _ _ us hl => match us, hl with | [_], _ => rfl
theorem b_rounds (T : Txt K mg A fd) : Binds K (fd 10) ["p"] [] := T.F_rounds.binds fun _ _ _ _ _ _ us hl => match us, hl with | [_], _ => rfl
theorem b_type_of (T : Txt K mg A fd) : Binds K (fd 11) ["p"] [] := T.F_type_of.binds fun _ _ _ _ _ _ us hl => match us, hl with | [_], _ => rfl
theorem b_cycle_type (T : Txt K mg A fd) : Binds K (fd 12) ["p"] [] := T.F_cycle_type.binds fun _ _ _ _ _ _ us hl => match us, hl with | [_], _ => rfl
theorem b_datum_of (T : Txt K mg A fd) : Binds K (fd 30) ["S"] [] := T.F_datum_of.binds fun _ _ _ _ _ _ us hl => match us, hl with | [_], _ => rfl
theorem b_is_word (T : Txt K mg A fd) : Binds K (fd 24) ["value", "k"] [] := T.F_is_word.binds fun _ _ _ _ _ _ us hl => match us, hl with | [_, _], _ => rfl
theorem b_check_word (T : Txt K mg A fd) : Binds K (fd 25) ["w", "k"] [] := T.F_check_word.binds fun _ _ _ _ _ _ us hl => match us, hl with | [_, _], _ => rfl
theorem b_undone (T : Txt K mg A fd) : Binds K (fd 8) ["p"] [] := T.F_undone.binds fun _ _ _ _ _ _ us hl => match us, hl with | [_], _ => rfl
theorem b_inverse_of (T : Txt K mg A fd) : Binds K (fd 9) ["p"] [] := T.F_inverse_of.binds fun _ _ _ _ _ _ us hl => match us, hl with | [_], _ => rfl
theorem b_letter_tables (T : Txt K mg A fd) : Binds K (fd 26) ["S"] [] := T.F_letter_tables.binds fun _ _ _ _ _ _ us hl => match us, hl with | [_], _ => rfl
theorem b_led_along (T : Txt K mg A fd) : Binds K (fd 27) ["tables", "x", "w"] [] := T.F_led_along.binds fun _ _ _ _ _ _ us hl => match us, hl with | [_, _, _], _ => rfl
theorem b_word_permutation (T : Txt K mg A fd) : Binds K (fd 28) ["S", "w"] [] := T.F_word_permutation.binds fun _ _ _ _ _ _ us hl => match us, hl with | [_, _], _ => rfl
theorem b_law_letters (T : Txt K mg A fd) : Binds K (fd 52) ["k"] [] := T.F_law_letters.binds fun _ _ _ _ _ _ us hl => match us, hl with | [_], _ => rfl
theorem b_law_word (T : Txt K mg A fd) : Binds K (fd 57) ["state", "k", "most"] [] := T.F_law_word.binds fun _ _ _ _ _ _ us hl => match us, hl with | [_, _, _], _ => rfl
theorem b_told_system (T : Txt K mg A fd) : Binds K (fd 36) ["S", "words"] [] := T.F_told_system.binds fun _ _ _ _ _ _ us hl => match us, hl with | [_, _], _ => rfl
theorem b_found_parts (T : Txt K mg A fd) : Binds K (fd 21) ["S"] [] := T.F_found_parts.binds fun _ _ _ _ _ _ us hl => match us, hl with | [_], _ => rfl
theorem b_system_parts (T : Txt K mg A fd) : Binds K (fd 29) ["S"] [] := T.F_system_parts.binds fun _ _ _ _ _ _ us hl => match us, hl with | [_], _ => rfl
theorem b_law_cycles (T : Txt K mg A fd) : Binds K (fd 46) ["p"] [] := T.F_law_cycles.binds fun _ _ _ _ _ _ us hl => match us, hl with | [_], _ => rfl
theorem b_law_type (T : Txt K mg A fd) : Binds K (fd 47) ["p"] [] := T.F_law_type.binds fun _ _ _ _ _ _ us hl => match us, hl with | [_], _ => rfl
theorem b_law_renumbered (T : Txt K mg A fd) : Binds K (fd 49) ["p", "f"] [] := T.F_law_renumbered.binds fun _ _ _ _ _ _ us hl => match us, hl with | [_, _], _ => rfl
theorem b_law_turned_system (T : Txt K mg A fd) : Binds K (fd 50) ["S", "f"] [] := T.F_law_turned_system.binds fun _ _ _ _ _ _ us hl => match us, hl with | [_, _], _ => rfl
theorem b_law_numbered (T : Txt K mg A fd) : Binds K (fd 51) ["S", "x"] [] := T.F_law_numbered.binds fun _ _ _ _ _ _ us hl => match us, hl with | [_, _], _ => rfl
theorem b_law_step (T : Txt K mg A fd) : Binds K (fd 53) ["S", "x", "i"] [] := T.F_law_step.binds fun _ _ _ _ _ _ us hl => match us, hl with | [_, _, _], _ => rfl
theorem b_law_leading (T : Txt K mg A fd) : Binds K (fd 54) ["S", "x"] [] := T.F_law_leading.binds fun _ _ _ _ _ _ us hl => match us, hl with | [_, _], _ => rfl
theorem b_law_least (T : Txt K mg A fd) : Binds K (fd 55) ["S"] [] := T.F_law_least.binds fun _ _ _ _ _ _ us hl => match us, hl with | [_], _ => rfl
theorem b_has_one_part (T : Txt K mg A fd) : Binds K (fd 22) ["S"] [] := T.F_has_one_part.binds fun _ _ _ _ _ _ us hl => match us, hl with | [_], _ => rfl
theorem b_check_connected (T : Txt K mg A fd) : Binds K (fd 23) ["S"] [] := T.F_check_connected.binds fun _ _ _ _ _ _ us hl => match us, hl with | [_], _ => rfl
theorem b_is_sheet (T : Txt K mg A fd) : Binds K (fd 19) ["value", "S"] [] := T.F_is_sheet.binds fun _ _ _ _ _ _ us hl => match us, hl with | [_, _], _ => rfl
theorem b_check_sheet (T : Txt K mg A fd) : Binds K (fd 20) ["x", "S"] [] := T.F_check_sheet.binds fun _ _ _ _ _ _ us hl => match us, hl with | [_, _], _ => rfl
theorem b_counted_from (T : Txt K mg A fd) : Binds K (fd 31) ["S", "x"] [] := T.F_counted_from.binds fun _ _ _ _ _ _ us hl => match us, hl with | [_, _], _ => rfl
theorem b_numbered_from (T : Txt K mg A fd) : Binds K (fd 32) ["S", "x"] [] := T.F_numbered_from.binds fun _ _ _ _ _ _ us hl => match us, hl with | [_, _], _ => rfl
theorem b_words_from (T : Txt K mg A fd) : Binds K (fd 34) ["S", "x"] [] := T.F_words_from.binds fun _ _ _ _ _ _ us hl => match us, hl with | [_, _], _ => rfl
theorem b_leading_words (T : Txt K mg A fd) : Binds K (fd 35) ["S", "x"] [] := T.F_leading_words.binds fun _ _ _ _ _ _ us hl => match us, hl with | [_, _], _ => rfl
theorem b_least_system (T : Txt K mg A fd) : Binds K (fd 33) ["S"] [] := T.F_least_system.binds fun _ _ _ _ _ _ us hl => match us, hl with | [_], _ => rfl
theorem b_law_walk (T : Txt K mg A fd) : Binds K (fd 58) ["S", "x", "w"] [] := T.F_law_walk.binds fun _ _ _ _ _ _ us hl => match us, hl with | [_, _, _], _ => rfl
theorem b_law (T : Txt K mg A fd) : Binds K (fd 59) ["script"] [] := T.F_law.binds fun _ _ _ _ _ _ us hl => match us, hl with | [_], _ => rfl
noncomputable def b_law_state_0 : SS :=
      (sSeq (sSet 1 (mOp fAdd (mOp fMulG (mVar 1) (mC (.int 1000003))) (mFn fAbs (mCons (mVar 3) mNil))))
      (sSet 2 (mOp fMod (mFn fInt (mCons (mOp fAdd (mOp fMulG (mVar 2) (mC (.int 48271))) (mVar 3)) mNil)) (mC (.int 2147483647)))))
noncomputable def m_law_state : SS :=
      (sSeq (sSet 1 (mC (.int 0)))
      (sSeq (sSet 2 (mC (.int 1)))
      (sSeq (sFor (mItems (mSl fSl (mVar 0) mNoPart (mPart (mC (.int 63))))) (gN 3) b_law_state_0)
      (sRet (mNew (mCons (mVar 1) (mCons (mVar 2) mNil)))))))
theorem w_law_state {k : Nat} (T : Txt K mg A fd) : FnD P w K mg base (k + 1) (A 40) (fd 40) ["script"] (runF N_law_state (m_law_state)) := by
  refine fn_def T.F_law_state sc_law_state fun cdv A_ outer s H E X hX hr tk hp => ?_
  subst hX
  exact (es_cons (es_set 1 sc_law_state.nd ev_int)
      (es_cons (es_set 2 sc_law_state.nd ev_int)
      (es_cons (es_for hp rfl (ei_seq (ev_sl (ev_var 0) eo_none (eo_some ev_int))) (eg_name (vs := [3]) 3 sc_law_state.nd) (es_cons (es_set 1 sc_law_state.nd (ev_op opS_add (ev_op opS_mulG (ev_var 1) ev_int) (ev_bf cs_abs T.z_abs PyProof.Rows.boot_abs (ea_cons (ev_var 3) ea_nil))))
      (es_one (es_set 2 sc_law_state.nd (ev_op opS_mod (ev_bt cs_int T.z_int PyProof.Rows.boot_int (ea_cons (ev_op opS_add (ev_op opS_mulG (ev_var 2) ev_int) (ev_var 3)) ea_nil)) ev_int)))))
      (es_one (es_ret (ev_new (ef_lst (ea_cons (ev_var 1) (ea_cons (ev_var 2) ea_nil)) (lenA_cons (lenA_cons lenA_nil)))))))))
noncomputable def m_law_take : SS :=
      (sSeq (sIf (mB (mOp fGt (mOp fIx (mVar 0) (mC (.int 0))) (mC (.int 0)))) (sSeq (sSet 2 (mOp fMod (mFn fInt (mCons (mOp fIx (mVar 0) (mC (.int 0))) mNil)) (mVar 1)))
      (sSeq (sSub fSetL (mVar 0) (mC (.int 0)) (mOp fFdiv (mOp fIx (mVar 0) (mC (.int 0))) (mVar 1)))
      (sRet (mVar 2)))) sSkip)
      (sSeq (sSub fSetL (mVar 0) (mC (.int 1)) (mOp fMod (mFn fInt (mCons (mOp fAdd (mOp fMulG (mOp fIx (mVar 0) (mC (.int 1))) (mC (.int 48271))) (mC (.int 11))) mNil)) (mC (.int 2147483647))))
      (sRet (mOp fMod (mFn fInt (mCons (mOp fFdiv (mOp fIx (mVar 0) (mC (.int 1))) (mC (.int 7))) mNil)) (mVar 1)))))
theorem w_law_take {k : Nat} (T : Txt K mg A fd) : FnD P w K mg base (k + 1) (A 41) (fd 41) ["state", "m"] (runF N_law_take (m_law_take)) := by
  refine fn_def T.F_law_take sc_law_take fun cdv A_ outer s H E X hX hr tk hp => ?_
  subst hX
  exact (es_cons (es_if (et_cmp opS_gt (ev_ix (ev_var 0) ev_int) ev_int (nomark _)) (es_cons (es_set 2 sc_law_take.nd (ev_op opS_mod (ev_bt cs_int T.z_int PyProof.Rows.boot_int (ea_cons (ev_ix (ev_var 0) ev_int) ea_nil)) (ev_var 1)))
      (es_cons (es_sub (ev_var 0) ev_int (ev_op opS_fdiv (ev_ix (ev_var 0) ev_int) (ev_var 1)))
      (es_one (es_ret (ev_var 2))))) es_nil)
      (es_cons (es_sub (ev_var 0) ev_int (ev_op opS_mod (ev_bt cs_int T.z_int PyProof.Rows.boot_int (ea_cons (ev_op opS_add (ev_op opS_mulG (ev_ix (ev_var 0) ev_int) ev_int) ev_int) ea_nil)) ev_int))
      (es_one (es_ret (ev_op opS_mod (ev_bt cs_int T.z_int PyProof.Rows.boot_int (ea_cons (ev_op opS_fdiv (ev_ix (ev_var 0) ev_int) ev_int) ea_nil)) (ev_var 1))))))
noncomputable def b_law_inverse_0 : SS :=
      (sSub fSetL (mVar 1) (mOp fIx (mVar 0) (mVar 2)) (mVar 2))
noncomputable def e_law_inverse_0 : SE :=
      (mC (.int 0))
noncomputable def m_law_inverse : SS :=
      (sSeq (sSet 1 (mNew (mComp (mItems (mVar 0)) (gN 2) mYes e_law_inverse_0 [2])))
      (sSeq (sFor (mRng1 (mFn fLen (mCons (mVar 0) mNil))) (gN 2) b_law_inverse_0)
      (sRet (mFn fTuple (mCons (mVar 1) mNil)))))
theorem w_law_inverse {k : Nat} (T : Txt K mg A fd) : FnD P w K mg base (k + 1) (A 42) (fd 42) ["p"] (runF N_law_inverse (m_law_inverse)) := by
  refine fn_def T.F_law_inverse sc_law_inverse fun cdv A_ outer s H E X hX hr tk hp => ?_
  subst hX
  exact (es_cons (ps_setC (i := 1) (own := [("x", 2)]) (sm := mNew) (fun _ _ _ h_ => tM.new h_) rfl sc_law_inverse.nd (ei_seq (ev_var 0)) (blkOk_by (N := N_law_inverse) (sc := defScope s_law_inverse) (own := [("x", 2)]) (by decide +kernel)) (fun s_ H_ C_ cl_ fp_ => (eg_name (vs := _) 2 sc_law_inverse.nd)) (fun s_ H_ C_ cl_ fp_ => eif_nil) (fun s_ H_ C_ cl_ fp_ => ev_int))
      (es_cons (es_for hp rfl (ei_range1 T.z_range (ev_bf cs_len T.z_len PySem.boot_len (ea_cons (ev_var 0) ea_nil))) (eg_name (vs := [2]) 2 sc_law_inverse.nd) (es_one (es_sub (ev_var 1) (ev_ix (ev_var 0) (ev_var 2)) (ev_var 2))))
      (es_one (es_ret (ev_bt cs_tuple T.z_tuple PyProof.Rows.boot_tuple (ea_cons (ev_var 1) ea_nil))))))
noncomputable def c_law_permutation_0 : SB :=
      (mB (mOp fGt (mFn fLen (mCons (mVar 2) mNil)) (mC (.int 0))))
noncomputable def b_law_permutation_0 (f_law_take : FS) : SS :=
      (sExpr (mMeth fApp (mVar 3) (mCons (mMeth fPopAt (mVar 2) (mCons (mCall f_law_take (mCons (mVar 0) (mCons (mFn fLen (mCons (mVar 2) mNil)) mNil))) mNil)) mNil)))
noncomputable def m_law_permutation (f_law_take : FS) : SS :=
      (sSeq (sPar 2 3 (mNew (mRgL1 (mVar 1))) (mNew mNil))
      (sSeq (sWhile c_law_permutation_0 (b_law_permutation_0 f_law_take))
      (sRet (mFn fTuple (mCons (mVar 3) mNil)))))
theorem w_law_permutation {k : Nat} (T : Txt K mg A fd) {f_law_take : FS} (D_law_take : FnD P w K mg base k (A 41) (fd 41) ["state", "m"] f_law_take) : FnD P w K mg base (k + 1) (A 43) (fd 43) ["state", "d"] (runF N_law_permutation (m_law_permutation f_law_take)) := by
  refine fn_def T.F_law_permutation sc_law_permutation fun cdv A_ outer s H E X hX hr tk hp => ?_
  subst hX
  exact (es_cons (es_par 2 3 rfl sc_law_permutation.nd (ev_new (ef_listRg1 T.z_list (ev_var 1) rfl T.z_range)) (ev_new (ef_lst ea_nil lenA_nil)))
      (es_cons (es_while hp (et_cmp opS_gt (ev_bf cs_len T.z_len PySem.boot_len (ea_cons (ev_var 2) ea_nil)) ev_int (nomark _)) (es_one (es_expr (ev_bm PySem.F.slot_list_append rfl ms_append (ev_var 3) (ea_cons (ev_bm PySem.F.slot_list_pop rfl ms_popAt (ev_var 2) (ea_cons (ev_call D_law_take hr tk T.m_law_take T.F_law_take.kp (b_law_take T) (ea_cons (ev_var 0) (ea_cons (ev_bf cs_len T.z_len PySem.boot_len (ea_cons (ev_var 2) ea_nil)) ea_nil)) (lenA_cons (lenA_cons lenA_nil))) ea_nil)) ea_nil)))))
      (es_one (es_ret (ev_bt cs_tuple T.z_tuple PyProof.Rows.boot_tuple (ea_cons (ev_var 3) ea_nil))))))
noncomputable def e_law_system_0 : SE :=
      (mIf (mB (mOp fEq (mVar 8) (mVar 6))) (mVar 7) (mIf (mB (mOp fEq (mVar 8) (mVar 7))) (mVar 6) (mVar 8)))
noncomputable def e_law_system_1 : SE :=
      (mOp fMod (mFn fInt (mCons (mOp fAdd (mVar 8) (mC (.int 1))) mNil)) (mVar 1))
noncomputable def b_law_system_0 (f_law_take : FS) (f_law_inverse : FS) (f_law_permutation : FS) : SS :=
      (sSeq (sSet 5 (mCall f_law_take (mCons (mVar 0) (mCons (mC (.int 6)) mNil))))
      (sIf (mAnd (mB (mOp fEq (mVar 5) (mC (.int 0)))) (mB (mOp fGt (mFn fLen (mCons (mVar 3) mNil)) (mC (.int 0))))) (sExpr (mMeth fApp (mVar 3) (mCons (mCall f_law_inverse (mCons (mOp fIx (mVar 3) (mCall f_law_take (mCons (mVar 0) (mCons (mFn fLen (mCons (mVar 3) mNil)) mNil)))) mNil)) mNil))) (sIf (mAnd (mB (mOp fEq (mVar 5) (mC (.int 1)))) (mB (mOp fGt (mVar 1) (mC (.int 1))))) (sSeq (sSet 6 (mCall f_law_take (mCons (mVar 0) (mCons (mVar 1) mNil))))
      (sSeq (sSet 7 (mOp fMod (mFn fInt (mCons (mOp fAdd (mOp fAdd (mVar 6) (mC (.int 1))) (mCall f_law_take (mCons (mVar 0) (mCons (mOp fSub (mVar 1) (mC (.int 1))) mNil)))) mNil)) (mVar 1)))
      (sExpr (mMeth fApp (mVar 3) (mCons (mFn fTuple (mCons (mFrz (mComp (mRng1 (mVar 1)) (gN 8) mYes e_law_system_0 [8])) mNil)) mNil))))) (sIf (mB (mOp fEq (mVar 5) (mC (.int 2)))) (sExpr (mMeth fApp (mVar 3) (mCons (mFn fTuple (mCons (mFrz (mComp (mRng1 (mVar 1)) (gN 8) mYes e_law_system_1 [8])) mNil)) mNil))) (sExpr (mMeth fApp (mVar 3) (mCons (mCall f_law_permutation (mCons (mVar 0) (mCons (mVar 1) mNil))) mNil)))))))
noncomputable def m_law_system (f_law_take : FS) (f_law_inverse : FS) (f_law_permutation : FS) : SS :=
      (sSeq (sSet 3 (mNew mNil))
      (sSeq (sFor (mRng1 (mVar 2)) (gN 4) (b_law_system_0 f_law_take f_law_inverse f_law_permutation))
      (sRet (mTup (mCons (mVar 1) (mCons (mFn fTuple (mCons (mVar 3) mNil)) mNil))))))
theorem w_law_system {k : Nat} (T : Txt K mg A fd) {f_law_take : FS} (D_law_take : FnD P w K mg base k (A 41) (fd 41) ["state", "m"] f_law_take) {f_law_inverse : FS} (D_law_inverse : FnD P w K mg base k (A 42) (fd 42) ["p"] f_law_inverse) {f_law_permutation : FS} (D_law_permutation : FnD P w K mg base k (A 43) (fd 43) ["state", "d"] f_law_permutation) : FnD P w K mg base (k + 1) (A 44) (fd 44) ["state", "d", "k"] (runF N_law_system (m_law_system f_law_take f_law_inverse f_law_permutation)) := by
  refine fn_def T.F_law_system sc_law_system fun cdv A_ outer s H E X hX hr tk hp => ?_
  subst hX
  exact (es_cons (es_set 3 sc_law_system.nd (ev_new (ef_lst ea_nil lenA_nil)))
      (es_cons (es_for hp rfl (ei_range1 T.z_range (ev_var 2)) (eg_name (vs := [4]) 4 sc_law_system.nd) (es_cons (es_set 5 sc_law_system.nd (ev_call D_law_take hr tk T.m_law_take T.F_law_take.kp (b_law_take T) (ea_cons (ev_var 0) (ea_cons ev_int ea_nil)) (lenA_cons (lenA_cons lenA_nil))))
      (es_one (es_if (et_of (ew_and (et_cmp (opS_eq hr.units) (ev_var 5) ev_int (nomark _)) (ew_and1 (et_cmp opS_gt (ev_bf cs_len T.z_len PySem.boot_len (ea_cons (ev_var 3) ea_nil)) ev_int (nomark _))))) (es_one (es_expr (ev_bm PySem.F.slot_list_append rfl ms_append (ev_var 3) (ea_cons (ev_call D_law_inverse hr tk T.m_law_inverse T.F_law_inverse.kp (b_law_inverse T) (ea_cons (ev_ix (ev_var 3) (ev_call D_law_take hr tk T.m_law_take T.F_law_take.kp (b_law_take T) (ea_cons (ev_var 0) (ea_cons (ev_bf cs_len T.z_len PySem.boot_len (ea_cons (ev_var 3) ea_nil)) ea_nil)) (lenA_cons (lenA_cons lenA_nil)))) ea_nil) (lenA_cons lenA_nil)) ea_nil)))) (es_one (es_if (et_of (ew_and (et_cmp (opS_eq hr.units) (ev_var 5) ev_int (nomark _)) (ew_and1 (et_cmp opS_gt (ev_var 1) ev_int (nomark _))))) (es_cons (es_set 6 sc_law_system.nd (ev_call D_law_take hr tk T.m_law_take T.F_law_take.kp (b_law_take T) (ea_cons (ev_var 0) (ea_cons (ev_var 1) ea_nil)) (lenA_cons (lenA_cons lenA_nil))))
      (es_cons (es_set 7 sc_law_system.nd (ev_op opS_mod (ev_bt cs_int T.z_int PyProof.Rows.boot_int (ea_cons (ev_op opS_add (ev_op opS_add (ev_var 6) ev_int) (ev_call D_law_take hr tk T.m_law_take T.F_law_take.kp (b_law_take T) (ea_cons (ev_var 0) (ea_cons (ev_op opS_sub (ev_var 1) ev_int) ea_nil)) (lenA_cons (lenA_cons lenA_nil)))) ea_nil)) (ev_var 1)))
      (es_one (es_expr (ev_bm PySem.F.slot_list_append rfl ms_append (ev_var 3) (ea_cons (ev_bt cs_tuple T.z_tuple PyProof.Rows.boot_tuple (ea_cons (ev_frz (ef_comp (own := [("x", 8)]) rfl sc_law_system.nd (ei_range1 T.z_range (ev_var 1)) (blkOk_by (N := N_law_system) (sc := defScope s_law_system) (own := [("x", 8)]) (by decide +kernel)) (fun s_ H_ C_ cl_ fp_ => (eg_name (vs := _) 8 sc_law_system.nd)) (fun s_ H_ C_ cl_ fp_ => eif_nil) (fun s_ H_ C_ cl_ fp_ => (ev_if (et_cmp (opS_eq hr.units) (ev_var 8) (ev_var 6) (nomark _)) (ev_var 7) (ev_if (et_cmp (opS_eq hr.units) (ev_var 8) (ev_var 7) (nomark _)) (ev_var 6) (ev_var 8)))))) ea_nil)) ea_nil)))))) (es_one (es_if (et_cmp (opS_eq hr.units) (ev_var 5) ev_int (nomark _)) (es_one (es_expr (ev_bm PySem.F.slot_list_append rfl ms_append (ev_var 3) (ea_cons (ev_bt cs_tuple T.z_tuple PyProof.Rows.boot_tuple (ea_cons (ev_frz (ef_comp (own := [("x", 8)]) rfl sc_law_system.nd (ei_range1 T.z_range (ev_var 1)) (blkOk_by (N := N_law_system) (sc := defScope s_law_system) (own := [("x", 8)]) (by decide +kernel)) (fun s_ H_ C_ cl_ fp_ => (eg_name (vs := _) 8 sc_law_system.nd)) (fun s_ H_ C_ cl_ fp_ => eif_nil) (fun s_ H_ C_ cl_ fp_ => (ev_op opS_mod (ev_bt cs_int T.z_int PyProof.Rows.boot_int (ea_cons (ev_op opS_add (ev_var 8) ev_int) ea_nil)) (ev_var 1))))) ea_nil)) ea_nil)))) (es_one (es_expr (ev_bm PySem.F.slot_list_append rfl ms_append (ev_var 3) (ea_cons (ev_call D_law_permutation hr tk T.m_law_permutation T.F_law_permutation.kp (b_law_permutation T) (ea_cons (ev_var 0) (ea_cons (ev_var 1) ea_nil)) (lenA_cons (lenA_cons lenA_nil))) ea_nil))))))))))))
      (es_one (es_ret (ev_tup (ea_cons (ev_var 1) (ea_cons (ev_bt cs_tuple T.z_tuple PyProof.Rows.boot_tuple (ea_cons (ev_var 3) ea_nil)) ea_nil)) (lenA_cons (lenA_cons lenA_nil)))))))
noncomputable def b_law_parts_0 : SS :=
      (sSeq (sSet 9 (mOp fIx (mVar 8) (mOp fIx (mVar 6) (mVar 7))))
      (sIf (mNot (mB (mOp fIx (mVar 3) (mVar 9)))) (sSeq (sSub fSetL (mVar 3) (mVar 9) (mC (.bl true)))
      (sExpr (mMeth fApp (mVar 6) (mCons (mVar 9) mNil)))) sSkip))
noncomputable def c_law_parts_0 : SB :=
      (mB (mOp fLt (mVar 7) (mFn fLen (mCons (mVar 6) mNil))))
noncomputable def b_law_parts_1 : SS :=
      (sSeq (sFor (mItems (mVar 2)) (gN 8) b_law_parts_0)
      (sSet 7 (mOp fAdd (mVar 7) (mC (.int 1)))))
noncomputable def b_law_parts_2 : SS :=
      (sIf (mNot (mB (mOp fIx (mVar 3) (mVar 5)))) (sSeq (sPar 6 7 (mNew (mCons (mVar 5) mNil)) (mC (.int 0)))
      (sSeq (sSub fSetL (mVar 3) (mVar 5) (mC (.bl true)))
      (sSeq (sWhile c_law_parts_0 b_law_parts_1)
      (sExpr (mMeth fApp (mVar 4) (mCons (mFn fTuple (mCons (mFrz (mFn fSorted (mCons (mVar 6) mNil))) mNil)) mNil)))))) sSkip)
noncomputable def e_law_parts_0 : SE :=
      (mC (.bl false))
noncomputable def m_law_parts : SS :=
      (sSeq (sAsg (gT (gsCons (gN 1) (gsCons (gN 2) gsNil))) (mVar 0))
      (sSeq (sPar 3 4 (mNew (mComp (mRng1 (mVar 1)) (gN 5) mYes e_law_parts_0 [5])) (mNew mNil))
      (sSeq (sFor (mRng1 (mVar 1)) (gN 5) b_law_parts_2)
      (sRet (mFn fTuple (mCons (mVar 4) mNil))))))
theorem w_law_parts {k : Nat} (T : Txt K mg A fd) : FnD P w K mg base (k + 1) (A 45) (fd 45) ["S"] (runF N_law_parts (m_law_parts)) := by
  refine fn_def T.F_law_parts sc_law_parts fun cdv A_ outer s H E X hX hr tk hp => ?_
  subst hX
  exact (es_cons (es_asg (ev_var 0) (eg_tup rfl (egs_cons (eg_name (vs := [1, 2]) 1 sc_law_parts.nd) (egs_cons (eg_name (vs := [1, 2]) 2 sc_law_parts.nd) egs_nil)) (lenG_cons (lenG_cons lenG_nil))))
      (es_cons (es_par 3 4 rfl sc_law_parts.nd (ev_new (ef_comp (own := [("x", 5)]) rfl sc_law_parts.nd (ei_range1 T.z_range (ev_var 1)) (blkOk_by (N := N_law_parts) (sc := defScope s_law_parts) (own := [("x", 5)]) (by decide +kernel)) (fun s_ H_ C_ cl_ fp_ => (eg_name (vs := _) 5 sc_law_parts.nd)) (fun s_ H_ C_ cl_ fp_ => eif_nil) (fun s_ H_ C_ cl_ fp_ => ev_bl))) (ev_new (ef_lst ea_nil lenA_nil)))
      (es_cons (es_for hp rfl (ei_range1 T.z_range (ev_var 1)) (eg_name (vs := [5]) 5 sc_law_parts.nd) (es_one (es_if (et_not (et_val (ev_ix (ev_var 3) (ev_var 5)))) (es_cons (es_par 6 7 rfl sc_law_parts.nd (ev_new (ef_lst (ea_cons (ev_var 5) ea_nil) (lenA_cons lenA_nil))) ev_int)
      (es_cons (es_sub (ev_var 3) (ev_var 5) ev_bl)
      (es_cons (es_while hp (et_cmp opS_lt (ev_var 7) (ev_bf cs_len T.z_len PySem.boot_len (ea_cons (ev_var 6) ea_nil)) (nomark _)) (es_cons (es_for hp rfl (ei_seq (ev_var 2)) (eg_name (vs := [8]) 8 sc_law_parts.nd) (es_cons (es_set 9 sc_law_parts.nd (ev_ix (ev_var 8) (ev_ix (ev_var 6) (ev_var 7))))
      (es_one (es_if (et_not (et_val (ev_ix (ev_var 3) (ev_var 9)))) (es_cons (es_sub (ev_var 3) (ev_var 9) ev_bl)
      (es_one (es_expr (ev_bm PySem.F.slot_list_append rfl ms_append (ev_var 6) (ea_cons (ev_var 9) ea_nil))))) es_nil))))
      (es_one (es_set 7 sc_law_parts.nd (ev_op opS_add (ev_var 7) ev_int)))))
      (es_one (es_expr (ev_bm PySem.F.slot_list_append rfl ms_append (ev_var 4) (ea_cons (ev_bt cs_tuple T.z_tuple PyProof.Rows.boot_tuple (ea_cons (ev_frz (ev_bf cs_sorted T.z_sorted PyProof.Rows.boot_sorted (ea_cons (ev_var 6) ea_nil))) ea_nil)) ea_nil))))))) es_nil)))
      (es_one (es_ret (ev_bt cs_tuple T.z_tuple PyProof.Rows.boot_tuple (ea_cons (ev_var 4) ea_nil)))))))
noncomputable def m_law_is_connected (f_law_parts : FS) : SS :=
      (sRet (mOp fEq (mFn fLen (mCons (mCall f_law_parts (mCons (mVar 0) mNil)) mNil)) (mC (.int 1))))
theorem w_law_is_connected {k : Nat} (T : Txt K mg A fd) {f_law_parts : FS} (D_law_parts : FnD P w K mg base k (A 45) (fd 45) ["S"] f_law_parts) : FnD P w K mg base (k + 1) (A 48) (fd 48) ["S"] (runF N_law_is_connected (m_law_is_connected f_law_parts)) := by
  refine fn_def T.F_law_is_connected sc_law_is_connected fun cdv A_ outer s H E X hX hr tk hp => ?_
  subst hX
  exact (es_one (es_ret (ev_cmp (opS_eq hr.units) (ev_bf cs_len T.z_len PySem.boot_len (ea_cons (ev_call D_law_parts hr tk T.m_law_parts T.F_law_parts.kp (b_law_parts T) (ea_cons (ev_var 0) ea_nil) (lenA_cons lenA_nil)) ea_nil)) ev_int (nomark _))))
noncomputable def e_law_inner_0 (r_ : FS) : SE :=
      (mCall r_ (mCons (mVar 1) mNil))
noncomputable def m_law_inner (r_ : FS) : SS :=
      (sSeq (sIf (mB (mIsi (mVar 0) .tup)) (sRet (mFn fTuple (mCons (mFrz (mComp (mItems (mVar 0)) (gN 1) mYes (e_law_inner_0 r_) [1])) mNil))) sSkip)
      (sSeq (sIf (mOr (mB (mOp fIs (mVar 0) (mC .non))) (mOr (mB (mIsi (mVar 0) .str)) (mAnd (mB (mIsi (mVar 0) .int)) (mNot (mB (mIsi (mVar 0) .bool)))))) (sRet (mVar 0)) sSkip)
      (sRet (mC (.str "odd")))))
theorem w_law_inner {k : Nat} (T : Txt K mg A fd) {r_ : FS} (R_ : FnD P w K mg base k (A 38) (fd 38) ["value"] r_) : FnD P w K mg base (k + 1) (A 38) (fd 38) ["value"] (runF N_law_inner (m_law_inner r_)) := by
  refine fn_def T.F_law_inner sc_law_inner fun cdv A_ outer s H E X hX hr tk hp => ?_
  subst hX
  exact (es_cons (es_if (et_val (ev_isi .tup T.z_isinstance T.z_tuple PyProof.Rows.boot_tuple (ev_var 0))) (es_one (es_ret (ev_bt cs_tuple T.z_tuple PyProof.Rows.boot_tuple (ea_cons (ev_frz (ef_comp (own := [("item", 1)]) rfl sc_law_inner.nd (ei_seq (ev_var 0)) (blkOk_by (N := N_law_inner) (sc := defScope s_law_inner) (own := [("item", 1)]) (by decide +kernel)) (fun s_ H_ C_ cl_ fp_ => (eg_name (vs := _) 1 sc_law_inner.nd)) (fun s_ H_ C_ cl_ fp_ => eif_nil) (fun s_ H_ C_ cl_ fp_ => (ev_call R_ hr takes_none5 T.m_law_inner T.F_law_inner.kp (b_law_inner T) (ea_cons (ev_var 1) ea_nil) (lenA_cons lenA_nil))))) ea_nil)))) es_nil)
      (es_cons (es_if (et_of (ew_or (et_cmp opS_is (ev_var 0) ev_non (nomark _)) (ew_or (et_val (ev_isi .str T.z_isinstance T.z_str PyProof.Rows.boot_str (ev_var 0))) (ew_or1 (et_of (ew_and (et_val (ev_isi .int T.z_isinstance T.z_int PyProof.Rows.boot_int (ev_var 0))) (ew_and1 (et_not (et_val (ev_isi .bool T.z_isinstance T.z_bool PyProof.Rows.boot_bool (ev_var 0))))))))))) (es_one (es_ret (ev_var 0))) es_nil)
      (es_one (es_ret ev_str))))
noncomputable def m_law_plain (f_law_inner : FS) : SS :=
      (sRet (mIf (mB (mIsi (mVar 0) .str)) (mC (.str "odd")) (mCall f_law_inner (mCons (mVar 0) mNil))))
theorem w_law_plain {k : Nat} (T : Txt K mg A fd) {f_law_inner : FS} (D_law_inner : FnD P w K mg base k (A 38) (fd 38) ["value"] f_law_inner) : FnD P w K mg base (k + 1) (A 39) (fd 39) ["value"] (runF N_law_plain (m_law_plain f_law_inner)) := by
  refine fn_def T.F_law_plain sc_law_plain fun cdv A_ outer s H E X hX hr tk hp => ?_
  subst hX
  exact (es_one (es_ret (ev_if (et_val (ev_isi .str T.z_isinstance T.z_str PyProof.Rows.boot_str (ev_var 0))) ev_str (ev_call D_law_inner hr tk T.m_law_inner T.F_law_inner.kp (b_law_inner T) (ea_cons (ev_var 0) ea_nil) (lenA_cons lenA_nil)))))
noncomputable def e_law_product_0 : SE :=
      (mOp fIx (mVar 1) (mVar 2))
noncomputable def m_law_product : SS :=
      (sRet (mFn fTuple (mCons (mFrz (mComp (mItems (mVar 0)) (gN 2) mYes e_law_product_0 [2])) mNil)))
theorem w_law_product {k : Nat} (T : Txt K mg A fd) : FnD P w K mg base (k + 1) (A 56) (fd 56) ["p", "q"] (runF N_law_product (m_law_product)) := by
  refine fn_def T.F_law_product sc_law_product fun cdv A_ outer s H E X hX hr tk hp => ?_
  subst hX
  exact (es_one (es_ret (ev_bt cs_tuple T.z_tuple PyProof.Rows.boot_tuple (ea_cons (ev_frz (ef_comp (own := [("y", 2)]) rfl sc_law_product.nd (ei_seq (ev_var 0)) (blkOk_by (N := N_law_product) (sc := defScope s_law_product) (own := [("y", 2)]) (by decide +kernel)) (fun s_ H_ C_ cl_ fp_ => (eg_name (vs := _) 2 sc_law_product.nd)) (fun s_ H_ C_ cl_ fp_ => eif_nil) (fun s_ H_ C_ cl_ fp_ => (ev_ix (ev_var 1) (ev_var 2))))) ea_nil))))
noncomputable def m_is_integer : SS :=
      (sRet (mAndV (mIsi (mVar 0) .int) (mNotV (mIsi (mVar 0) .bool))))
theorem w_is_integer {k : Nat} (T : Txt K mg A fd) : FnD P w K mg base (k + 1) (A 4) (fd 4) ["value"] (runF N_is_integer (m_is_integer)) := by
  refine fn_def T.F_is_integer sc_is_integer fun cdv A_ outer s H E X hX hr tk hp => ?_
  subst hX
  exact (es_one (es_ret (ev_and (ev_isi .int T.z_isinstance T.z_int PyProof.Rows.boot_int (ev_var 0)) (ev_one (ev_not (ev_isi .bool T.z_isinstance T.z_bool PyProof.Rows.boot_bool (ev_var 0)))))))
noncomputable def b_is_permutation_0 (f_is_integer : FS) : SS :=
      (sSeq (sIf (mOr (mNot (mB (mCall f_is_integer (mCons (mVar 2) mNil)))) (mOr (mB (mOp fLt (mVar 2) (mC (.int 0)))) (mOr (mB (mOp fGe (mVar 2) (mFn fLen (mCons (mVar 0) mNil)))) (mB (mOp (fDIn true) (mVar 2) (mVar 1)))))) (sRet (mC (.bl false))) sSkip)
      (sSub fSetD (mVar 1) (mVar 2) (mC (.bl true))))
noncomputable def m_is_permutation (f_is_integer : FS) : SS :=
      (sSeq (sIf (mNot (mB (mIsi (mVar 0) .tup))) (sRet (mC (.bl false))) sSkip)
      (sSeq (sSet 1 mDNewK)
      (sSeq (sFor (mItems (mVar 0)) (gN 2) (b_is_permutation_0 f_is_integer))
      (sRet (mC (.bl true))))))
theorem w_is_permutation {k : Nat} (T : Txt K mg A fd) {f_is_integer : FS} (D_is_integer : FnD P w K mg base k (A 4) (fd 4) ["value"] f_is_integer) : FnD P w K mg base (k + 1) (A 6) (fd 6) ["value"] (runF N_is_permutation (m_is_permutation f_is_integer)) := by
  refine fn_def T.F_is_permutation sc_is_permutation fun cdv A_ outer s H E X hX hr tk hp => ?_
  subst hX
  exact (es_cons (es_if (et_not (et_val (ev_isi .tup T.z_isinstance T.z_tuple PyProof.Rows.boot_tuple (ev_var 0)))) (es_one (es_ret ev_bl)) es_nil)
      (es_cons (es_set 1 sc_is_permutation.nd ev_dnewK)
      (es_cons (es_for hp rfl (ei_seq (ev_var 0)) (eg_name (vs := [2]) 2 sc_is_permutation.nd) (es_cons (es_if (et_of (ew_or (et_not (et_val (ev_call D_is_integer hr tk T.m_is_integer T.F_is_integer.kp (b_is_integer T) (ea_cons (ev_var 2) ea_nil) (lenA_cons lenA_nil)))) (ew_or (et_cmp opS_lt (ev_var 2) ev_int (nomark _)) (ew_or (et_cmp opS_ge (ev_var 2) (ev_bf cs_len T.z_len PySem.boot_len (ea_cons (ev_var 0) ea_nil)) (nomark _)) (ew_or1 (et_din (hu_of hr) (ev_var 2) (ev_var 1))))))) (es_one (es_ret ev_bl)) es_nil)
      (es_one (es_dput (hu_of hr) (ev_var 1) (ev_var 2) ev_bl))))
      (es_one (es_ret ev_bl)))))
noncomputable def e_is_system_0 (f_is_permutation : FS) : SE :=
      (mAndV (mCall f_is_permutation (mCons (mVar 3) mNil)) (mOp fEq (mFn fLen (mCons (mVar 3) mNil)) (mVar 1)))
noncomputable def m_is_system (f_is_integer : FS) (f_is_permutation : FS) : SS :=
      (sSeq (sIf (mOr (mNot (mB (mIsi (mVar 0) .tup))) (mB (mOp fNe (mFn fLen (mCons (mVar 0) mNil)) (mC (.int 2))))) (sRet (mC (.bl false))) sSkip)
      (sSeq (sAsg (gT (gsCons (gN 1) (gsCons (gN 2) gsNil))) (mVar 0))
      (sSeq (sIf (mOr (mNot (mB (mCall f_is_integer (mCons (mVar 1) mNil)))) (mOr (mNot (mB (mChain fLe fLe (mC (.int 0)) (mVar 1) (mC (.int 24))))) (mOr (mNot (mB (mIsi (mVar 2) .tup))) (mB (mOp fGt (mFn fLen (mCons (mVar 2) mNil)) (mC (.int 12))))))) (sRet (mC (.bl false))) sSkip)
      (sRet (mFn fAll (mCons (mFrz (mComp (mItems (mVar 2)) (gN 3) mYes (e_is_system_0 f_is_permutation) [3])) mNil))))))
theorem w_is_system {k : Nat} (T : Txt K mg A fd) {f_is_integer : FS} (D_is_integer : FnD P w K mg base k (A 4) (fd 4) ["value"] f_is_integer) {f_is_permutation : FS} (D_is_permutation : FnD P w K mg base k (A 6) (fd 6) ["value"] f_is_permutation) : FnD P w K mg base (k + 1) (A 17) (fd 17) ["value"] (runF N_is_system (m_is_system f_is_integer f_is_permutation)) := by
  obtain ⟨t_MOST_RANK, c_MOST_RANK⟩ := T.c_MOST_RANK
  obtain ⟨t_MOST_SHEETS, c_MOST_SHEETS⟩ := T.c_MOST_SHEETS
  refine fn_def T.F_is_system sc_is_system fun cdv A_ outer s H E X hX hr tk hp => ?_
  subst hX
  exact (es_cons (es_if (et_of (ew_or (et_not (et_val (ev_isi .tup T.z_isinstance T.z_tuple PyProof.Rows.boot_tuple (ev_var 0)))) (ew_or1 (et_cmp (opS_ne hr.units) (ev_bf cs_len T.z_len PySem.boot_len (ea_cons (ev_var 0) ea_nil)) ev_int (nomark _))))) (es_one (es_ret ev_bl)) es_nil)
      (es_cons (es_asg (ev_var 0) (eg_tup rfl (egs_cons (eg_name (vs := [1, 2]) 1 sc_is_system.nd) (egs_cons (eg_name (vs := [1, 2]) 2 sc_is_system.nd) egs_nil)) (lenG_cons (lenG_cons lenG_nil))))
      (es_cons (es_if (et_of (ew_or (et_not (et_val (ev_call D_is_integer hr tk T.m_is_integer T.F_is_integer.kp (b_is_integer T) (ea_cons (ev_var 1) ea_nil) (lenA_cons lenA_nil)))) (ew_or (et_not (et_chain opS_le opS_le ev_int (ev_var 1) (ev_gint rfl c_MOST_SHEETS))) (ew_or (et_not (et_val (ev_isi .tup T.z_isinstance T.z_tuple PyProof.Rows.boot_tuple (ev_var 2)))) (ew_or1 (et_cmp opS_gt (ev_bf cs_len T.z_len PySem.boot_len (ea_cons (ev_var 2) ea_nil)) (ev_gint rfl c_MOST_RANK) (nomark _))))))) (es_one (es_ret ev_bl)) es_nil)
      (es_one (es_ret (ev_bf (cs_all rfl) T.z_all PyProof.Rows.boot_all (ea_cons (ev_frz (ef_comp (own := [("p", 3)]) rfl sc_is_system.nd (ei_seq (ev_var 2)) (blkOk_by (N := N_is_system) (sc := defScope s_is_system) (own := [("p", 3)]) (by decide +kernel)) (fun s_ H_ C_ cl_ fp_ => (eg_name (vs := _) 3 sc_is_system.nd)) (fun s_ H_ C_ cl_ fp_ => eif_nil) (fun s_ H_ C_ cl_ fp_ => (ev_and (ev_call D_is_permutation hr takes_none5 T.m_is_permutation T.F_is_permutation.kp (b_is_permutation T) (ea_cons (ev_var 3) ea_nil) (lenA_cons lenA_nil)) (ev_one (ev_cmp (opS_eq hr.units) (ev_bf cs_len T.z_len PySem.boot_len (ea_cons (ev_var 3) ea_nil)) (ev_var 1) (nomark _))))))) ea_nil)))))))
noncomputable def m_check_system (A : Nat → Addr) (f_is_system : FS) : SS :=
      (sIf (mNot (mB (mCall f_is_system (mCons (mVar 0) mNil)))) (sRaise (A 2)) sSkip)
theorem w_check_system {k : Nat} (T : Txt K mg A fd) {f_is_system : FS} (D_is_system : FnD P w K mg base k (A 17) (fd 17) ["value"] f_is_system) : FnD P w K mg base (k + 1) (A 18) (fd 18) ["S"] (runF N_check_system (m_check_system A f_is_system)) := by
  refine fn_def T.F_check_system sc_check_system fun cdv A_ outer s H E X hX hr tk hp => ?_
  subst hX
  exact (es_one (es_if (et_not (et_val (ev_call D_is_system hr tk T.m_is_system T.F_is_system.kp (b_is_system T) (ea_cons (ev_var 0) ea_nil) (lenA_cons lenA_nil)))) (es_one (es_raise rfl tk T.q_Malformed T.m_Malformed T.k_Malformed T.b_Malformed T.t_Malformed)) es_nil))
noncomputable def m_check_permutation (A : Nat → Addr) (f_is_permutation : FS) : SS :=
      (sIf (mNot (mB (mCall f_is_permutation (mCons (mVar 0) mNil)))) (sRaise (A 2)) sSkip)
theorem w_check_permutation {k : Nat} (T : Txt K mg A fd) {f_is_permutation : FS} (D_is_permutation : FnD P w K mg base k (A 6) (fd 6) ["value"] f_is_permutation) : FnD P w K mg base (k + 1) (A 7) (fd 7) ["p"] (runF N_check_permutation (m_check_permutation A f_is_permutation)) := by
  refine fn_def T.F_check_permutation sc_check_permutation fun cdv A_ outer s H E X hX hr tk hp => ?_
  subst hX
  exact (es_one (es_if (et_not (et_val (ev_call D_is_permutation hr tk T.m_is_permutation T.F_is_permutation.kp (b_is_permutation T) (ea_cons (ev_var 0) ea_nil) (lenA_cons lenA_nil)))) (es_one (es_raise rfl tk T.q_Malformed T.m_Malformed T.k_Malformed T.b_Malformed T.t_Malformed)) es_nil))
noncomputable def c_rounds_0 : SB :=
      (mNot (mB (mOp fIx (mVar 1) (mVar 5))))
noncomputable def b_rounds_0 : SS :=
      (sSeq (sSub fSetL (mVar 1) (mVar 5) (mC (.bl true)))
      (sSeq (sExpr (mMeth fApp (mVar 4) (mCons (mVar 5) mNil)))
      (sSet 5 (mOp fIx (mVar 0) (mVar 5)))))
noncomputable def b_rounds_1 : SS :=
      (sIf (mNot (mB (mOp fIx (mVar 1) (mVar 3)))) (sSeq (sSet 4 (mNew mNil))
      (sSeq (sSet 5 (mVar 3))
      (sSeq (sWhile c_rounds_0 b_rounds_0)
      (sExpr (mMeth fApp (mVar 2) (mCons (mFn fTuple (mCons (mVar 4) mNil)) mNil)))))) sSkip)
noncomputable def m_rounds : SS :=
      (sSeq (sPar 1 2 (mNew (mMulD (mCons (mC (.bl false)) mNil) (mFn fLen (mCons (mVar 0) mNil)))) (mNew mNil))
      (sSeq (sFor (mRng1 (mFn fLen (mCons (mVar 0) mNil))) (gN 3) b_rounds_1)
      (sRet (mVar 2))))
theorem w_rounds {k : Nat} (T : Txt K mg A fd) : FnD P w K mg base (k + 1) (A 10) (fd 10) ["p"] (runF N_rounds (m_rounds)) := by
  refine fn_def T.F_rounds sc_rounds fun cdv A_ outer s H E X hX hr tk hp => ?_
  subst hX
  exact (es_cons (es_par 1 2 rfl sc_rounds.nd (ev_new (ef_mulD (ea_cons ev_bl ea_nil) (lenA_cons lenA_nil) (ev_bf cs_len T.z_len PySem.boot_len (ea_cons (ev_var 0) ea_nil)))) (ev_new (ef_lst ea_nil lenA_nil)))
      (es_cons (es_for hp rfl (ei_range1 T.z_range (ev_bf cs_len T.z_len PySem.boot_len (ea_cons (ev_var 0) ea_nil))) (eg_name (vs := [3]) 3 sc_rounds.nd) (es_one (es_if (et_not (et_val (ev_ix (ev_var 1) (ev_var 3)))) (es_cons (es_set 4 sc_rounds.nd (ev_new (ef_lst ea_nil lenA_nil)))
      (es_cons (es_set 5 sc_rounds.nd (ev_var 3))
      (es_cons (es_while hp (et_not (et_val (ev_ix (ev_var 1) (ev_var 5)))) (es_cons (es_sub (ev_var 1) (ev_var 5) ev_bl)
      (es_cons (es_expr (ev_bm PySem.F.slot_list_append rfl ms_append (ev_var 4) (ea_cons (ev_var 5) ea_nil)))
      (es_one (es_set 5 sc_rounds.nd (ev_ix (ev_var 0) (ev_var 5)))))))
      (es_one (es_expr (ev_bm PySem.F.slot_list_append rfl ms_append (ev_var 2) (ea_cons (ev_bt cs_tuple T.z_tuple PyProof.Rows.boot_tuple (ea_cons (ev_var 4) ea_nil)) ea_nil))))))) es_nil)))
      (es_one (es_ret (ev_var 2)))))
noncomputable def e_type_of_0 : SE :=
      (mFn fLen (mCons (mVar 1) mNil))
noncomputable def m_type_of (f_rounds : FS) : SS :=
      (sRet (mFn fTuple (mCons (mFrz (mFn fSortR (mCons (mFrz (mComp (mItems (mCall f_rounds (mCons (mVar 0) mNil))) (gN 1) mYes e_type_of_0 [1])) mNil))) mNil)))
theorem w_type_of {k : Nat} (T : Txt K mg A fd) {f_rounds : FS} (D_rounds : FnD P w K mg base k (A 10) (fd 10) ["p"] f_rounds) : FnD P w K mg base (k + 1) (A 11) (fd 11) ["p"] (runF N_type_of (m_type_of f_rounds)) := by
  refine fn_def T.F_type_of sc_type_of fun cdv A_ outer s H E X hX hr tk hp => ?_
  subst hX
  exact (es_one (es_ret (ev_bt cs_tuple T.z_tuple PyProof.Rows.boot_tuple (ea_cons (ev_frz (ef_sortedRev T.z_sorted (ev_frz (ef_comp (own := [("cycle", 1)]) rfl sc_type_of.nd (ei_seq (ev_call D_rounds hr tk T.m_rounds T.F_rounds.kp (b_rounds T) (ea_cons (ev_var 0) ea_nil) (lenA_cons lenA_nil))) (blkOk_by (N := N_type_of) (sc := defScope s_type_of) (own := [("cycle", 1)]) (by decide +kernel)) (fun s_ H_ C_ cl_ fp_ => (eg_name (vs := _) 1 sc_type_of.nd)) (fun s_ H_ C_ cl_ fp_ => eif_nil) (fun s_ H_ C_ cl_ fp_ => (ev_bf cs_len T.z_len PySem.boot_len (ea_cons (ev_var 1) ea_nil))))))) ea_nil))))
noncomputable def m_cycle_type (f_check_permutation : FS) (f_type_of : FS) : SS :=
      (sSeq (sExpr (mCall f_check_permutation (mCons (mVar 0) mNil)))
      (sRet (mCall f_type_of (mCons (mVar 0) mNil))))
theorem w_cycle_type {k : Nat} (T : Txt K mg A fd) {f_check_permutation : FS} (D_check_permutation : FnD P w K mg base k (A 7) (fd 7) ["p"] f_check_permutation) {f_type_of : FS} (D_type_of : FnD P w K mg base k (A 11) (fd 11) ["p"] f_type_of) : FnD P w K mg base (k + 1) (A 12) (fd 12) ["p"] (runF N_cycle_type (m_cycle_type f_check_permutation f_type_of)) := by
  refine fn_def T.F_cycle_type sc_cycle_type fun cdv A_ outer s H E X hX hr tk hp => ?_
  subst hX
  exact (es_cons (es_expr (ev_call D_check_permutation hr tk T.m_check_permutation T.F_check_permutation.kp (b_check_permutation T) (ea_cons (ev_var 0) ea_nil) (lenA_cons lenA_nil)))
      (es_one (es_ret (ev_call D_type_of hr tk T.m_type_of T.F_type_of.kp (b_type_of T) (ea_cons (ev_var 0) ea_nil) (lenA_cons lenA_nil)))))
noncomputable def e_datum_of_0 (f_cycle_type : FS) : SE :=
      (mCall f_cycle_type (mCons (mVar 1) mNil))
noncomputable def m_datum_of (f_check_system : FS) (f_cycle_type : FS) : SS :=
      (sSeq (sExpr (mCall f_check_system (mCons (mVar 0) mNil)))
      (sRet (mFn fTuple (mCons (mFrz (mComp (mItems (mOp fIx (mVar 0) (mC (.int 1)))) (gN 1) mYes (e_datum_of_0 f_cycle_type) [1])) mNil))))
theorem w_datum_of {k : Nat} (T : Txt K mg A fd) {f_check_system : FS} (D_check_system : FnD P w K mg base k (A 18) (fd 18) ["S"] f_check_system) {f_cycle_type : FS} (D_cycle_type : FnD P w K mg base k (A 12) (fd 12) ["p"] f_cycle_type) : FnD P w K mg base (k + 1) (A 30) (fd 30) ["S"] (runF N_datum_of (m_datum_of f_check_system f_cycle_type)) := by
  refine fn_def T.F_datum_of sc_datum_of fun cdv A_ outer s H E X hX hr tk hp => ?_
  subst hX
  exact (es_cons (es_expr (ev_call D_check_system hr tk T.m_check_system T.F_check_system.kp (b_check_system T) (ea_cons (ev_var 0) ea_nil) (lenA_cons lenA_nil)))
      (es_one (es_ret (ev_bt cs_tuple T.z_tuple PyProof.Rows.boot_tuple (ea_cons (ev_frz (ef_comp (own := [("p", 1)]) rfl sc_datum_of.nd (ei_seq (ev_ix (ev_var 0) ev_int)) (blkOk_by (N := N_datum_of) (sc := defScope s_datum_of) (own := [("p", 1)]) (by decide +kernel)) (fun s_ H_ C_ cl_ fp_ => (eg_name (vs := _) 1 sc_datum_of.nd)) (fun s_ H_ C_ cl_ fp_ => eif_nil) (fun s_ H_ C_ cl_ fp_ => (ev_call D_cycle_type hr takes_none5 T.m_cycle_type T.F_cycle_type.kp (b_cycle_type T) (ea_cons (ev_var 1) ea_nil) (lenA_cons lenA_nil))))) ea_nil)))))
noncomputable def e_is_word_0 (f_is_integer : FS) : SE :=
      (mAndV (mCall f_is_integer (mCons (mVar 2) mNil)) (mChain fLe fLe (mC (.int 1)) (mFn fAbs (mCons (mVar 2) mNil)) (mVar 1)))
noncomputable def m_is_word (A : Nat → Addr) (f_is_integer : FS) : SS :=
      (sSeq (sIf (mOr (mNot (mB (mCall f_is_integer (mCons (mVar 1) mNil)))) (mNot (mB (mChain fLe fLe (mC (.int 0)) (mVar 1) (mC (.int 12)))))) (sRaise (A 2)) sSkip)
      (sSeq (sIf (mOr (mNot (mB (mIsi (mVar 0) .tup))) (mB (mOp fGt (mFn fLen (mCons (mVar 0) mNil)) (mC (.int 2000))))) (sRet (mC (.bl false))) sSkip)
      (sRet (mFn fAll (mCons (mFrz (mComp (mItems (mVar 0)) (gN 2) mYes (e_is_word_0 f_is_integer) [2])) mNil)))))
theorem w_is_word {k : Nat} (T : Txt K mg A fd) {f_is_integer : FS} (D_is_integer : FnD P w K mg base k (A 4) (fd 4) ["value"] f_is_integer) : FnD P w K mg base (k + 1) (A 24) (fd 24) ["value", "k"] (runF N_is_word (m_is_word A f_is_integer)) := by
  obtain ⟨t_MOST_LETTERS, c_MOST_LETTERS⟩ := T.c_MOST_LETTERS
  obtain ⟨t_MOST_RANK, c_MOST_RANK⟩ := T.c_MOST_RANK
  refine fn_def T.F_is_word sc_is_word fun cdv A_ outer s H E X hX hr tk hp => ?_
  subst hX
  exact (es_cons (es_if (et_of (ew_or (et_not (et_val (ev_call D_is_integer hr tk T.m_is_integer T.F_is_integer.kp (b_is_integer T) (ea_cons (ev_var 1) ea_nil) (lenA_cons lenA_nil)))) (ew_or1 (et_not (et_chain opS_le opS_le ev_int (ev_var 1) (ev_gint rfl c_MOST_RANK)))))) (es_one (es_raise rfl tk T.q_Malformed T.m_Malformed T.k_Malformed T.b_Malformed T.t_Malformed)) es_nil)
      (es_cons (es_if (et_of (ew_or (et_not (et_val (ev_isi .tup T.z_isinstance T.z_tuple PyProof.Rows.boot_tuple (ev_var 0)))) (ew_or1 (et_cmp opS_gt (ev_bf cs_len T.z_len PySem.boot_len (ea_cons (ev_var 0) ea_nil)) (ev_gint rfl c_MOST_LETTERS) (nomark _))))) (es_one (es_ret ev_bl)) es_nil)
      (es_one (es_ret (ev_bf (cs_all rfl) T.z_all PyProof.Rows.boot_all (ea_cons (ev_frz (ef_comp (own := [("letter", 2)]) rfl sc_is_word.nd (ei_seq (ev_var 0)) (blkOk_by (N := N_is_word) (sc := defScope s_is_word) (own := [("letter", 2)]) (by decide +kernel)) (fun s_ H_ C_ cl_ fp_ => (eg_name (vs := _) 2 sc_is_word.nd)) (fun s_ H_ C_ cl_ fp_ => eif_nil) (fun s_ H_ C_ cl_ fp_ => (ev_and (ev_call D_is_integer hr takes_none5 T.m_is_integer T.F_is_integer.kp (b_is_integer T) (ea_cons (ev_var 2) ea_nil) (lenA_cons lenA_nil)) (ev_one (ev_chain opS_le opS_le ev_int (ev_bf cs_abs T.z_abs PyProof.Rows.boot_abs (ea_cons (ev_var 2) ea_nil)) (ev_var 1))))))) ea_nil))))))
noncomputable def m_check_word (A : Nat → Addr) (f_is_word : FS) : SS :=
      (sIf (mNot (mB (mCall f_is_word (mCons (mVar 0) (mCons (mVar 1) mNil))))) (sRaise (A 2)) sSkip)
theorem w_check_word {k : Nat} (T : Txt K mg A fd) {f_is_word : FS} (D_is_word : FnD P w K mg base k (A 24) (fd 24) ["value", "k"] f_is_word) : FnD P w K mg base (k + 1) (A 25) (fd 25) ["w", "k"] (runF N_check_word (m_check_word A f_is_word)) := by
  refine fn_def T.F_check_word sc_check_word fun cdv A_ outer s H E X hX hr tk hp => ?_
  subst hX
  exact (es_one (es_if (et_not (et_val (ev_call D_is_word hr tk T.m_is_word T.F_is_word.kp (b_is_word T) (ea_cons (ev_var 0) (ea_cons (ev_var 1) ea_nil)) (lenA_cons (lenA_cons lenA_nil))))) (es_one (es_raise rfl tk T.q_Malformed T.m_Malformed T.k_Malformed T.b_Malformed T.t_Malformed)) es_nil))
noncomputable def b_undone_0 : SS :=
      (sSub fSetL (mVar 1) (mVar 3) (mVar 2))
noncomputable def m_undone : SS :=
      (sSeq (sSet 1 (mNew (mMulD (mCons (mC (.int 0)) mNil) (mFn fLen (mCons (mVar 0) mNil)))))
      (sSeq (sFor (mEnum (mVar 0)) (gT (gsCons (gN 2) (gsCons (gN 3) gsNil))) b_undone_0)
      (sRet (mFn fTuple (mCons (mVar 1) mNil)))))
theorem w_undone {k : Nat} (T : Txt K mg A fd) : FnD P w K mg base (k + 1) (A 8) (fd 8) ["p"] (runF N_undone (m_undone)) := by
  refine fn_def T.F_undone sc_undone fun cdv A_ outer s H E X hX hr tk hp => ?_
  subst hX
  exact (es_cons (es_set 1 sc_undone.nd (ev_new (ef_mulD (ea_cons ev_int ea_nil) (lenA_cons lenA_nil) (ev_bf cs_len T.z_len PySem.boot_len (ea_cons (ev_var 0) ea_nil)))))
      (es_cons (es_for hp rfl (ei_enum T.z_enumerate (ev_var 0)) (eg_tup rfl (egs_cons (eg_name (vs := [2, 3]) 2 sc_undone.nd) (egs_cons (eg_name (vs := [2, 3]) 3 sc_undone.nd) egs_nil)) (lenG_cons (lenG_cons lenG_nil))) (es_one (es_sub (ev_var 1) (ev_var 3) (ev_var 2))))
      (es_one (es_ret (ev_bt cs_tuple T.z_tuple PyProof.Rows.boot_tuple (ea_cons (ev_var 1) ea_nil))))))
noncomputable def m_inverse_of (f_check_permutation : FS) (f_undone : FS) : SS :=
      (sSeq (sExpr (mCall f_check_permutation (mCons (mVar 0) mNil)))
      (sRet (mCall f_undone (mCons (mVar 0) mNil))))
theorem w_inverse_of {k : Nat} (T : Txt K mg A fd) {f_check_permutation : FS} (D_check_permutation : FnD P w K mg base k (A 7) (fd 7) ["p"] f_check_permutation) {f_undone : FS} (D_undone : FnD P w K mg base k (A 8) (fd 8) ["p"] f_undone) : FnD P w K mg base (k + 1) (A 9) (fd 9) ["p"] (runF N_inverse_of (m_inverse_of f_check_permutation f_undone)) := by
  refine fn_def T.F_inverse_of sc_inverse_of fun cdv A_ outer s H E X hX hr tk hp => ?_
  subst hX
  exact (es_cons (es_expr (ev_call D_check_permutation hr tk T.m_check_permutation T.F_check_permutation.kp (b_check_permutation T) (ea_cons (ev_var 0) ea_nil) (lenA_cons lenA_nil)))
      (es_one (es_ret (ev_call D_undone hr tk T.m_undone T.F_undone.kp (b_undone T) (ea_cons (ev_var 0) ea_nil) (lenA_cons lenA_nil)))))
noncomputable def b_letter_tables_0 (f_inverse_of : FS) : SS :=
      (sSeq (sSub fSetD (mVar 1) (mOp fAdd (mVar 2) (mC (.int 1))) (mVar 3))
      (sSub fSetD (mVar 1) (mOp fSub (mNeg (mVar 2)) (mC (.int 1))) (mCall f_inverse_of (mCons (mVar 3) mNil))))
noncomputable def m_letter_tables (f_inverse_of : FS) : SS :=
      (sSeq (sSet 1 mDNewK)
      (sSeq (sFor (mEnum (mOp fIx (mVar 0) (mC (.int 1)))) (gT (gsCons (gN 2) (gsCons (gN 3) gsNil))) (b_letter_tables_0 f_inverse_of))
      (sRet (mVar 1))))
theorem w_letter_tables {k : Nat} (T : Txt K mg A fd) {f_inverse_of : FS} (D_inverse_of : FnD P w K mg base k (A 9) (fd 9) ["p"] f_inverse_of) : FnD P w K mg base (k + 1) (A 26) (fd 26) ["S"] (runF N_letter_tables (m_letter_tables f_inverse_of)) := by
  refine fn_def T.F_letter_tables sc_letter_tables fun cdv A_ outer s H E X hX hr tk hp => ?_
  subst hX
  exact (es_cons (es_set 1 sc_letter_tables.nd ev_dnewK)
      (es_cons (es_for hp rfl (ei_enum T.z_enumerate (ev_ix (ev_var 0) ev_int)) (eg_tup rfl (egs_cons (eg_name (vs := [2, 3]) 2 sc_letter_tables.nd) (egs_cons (eg_name (vs := [2, 3]) 3 sc_letter_tables.nd) egs_nil)) (lenG_cons (lenG_cons lenG_nil))) (es_cons (es_dput (hu_of hr) (ev_var 1) (ev_op opS_add (ev_var 2) ev_int) (ev_var 3))
      (es_one (es_dput (hu_of hr) (ev_var 1) (ev_op opS_sub (ev_neg (ev_var 2)) ev_int) (ev_call D_inverse_of hr tk T.m_inverse_of T.F_inverse_of.kp (b_inverse_of T) (ea_cons (ev_var 3) ea_nil) (lenA_cons lenA_nil))))))
      (es_one (es_ret (ev_var 1)))))
noncomputable def b_led_along_0 : SS :=
      (sSet 1 (mOp fIx (mOp fDGet (mVar 0) (mVar 3)) (mVar 1)))
noncomputable def m_led_along : SS :=
      (sSeq (sFor (mItems (mVar 2)) (gN 3) b_led_along_0)
      (sRet (mVar 1)))
theorem w_led_along {k : Nat} (T : Txt K mg A fd) : FnD P w K mg base (k + 1) (A 27) (fd 27) ["tables", "x", "w"] (runF N_led_along (m_led_along)) := by
  refine fn_def T.F_led_along sc_led_along fun cdv A_ outer s H E X hX hr tk hp => ?_
  subst hX
  exact (es_cons (es_for hp rfl (ei_seq (ev_var 2)) (eg_name (vs := [3]) 3 sc_led_along.nd) (es_one (es_set 1 sc_led_along.nd (ev_ix (ev_dget (hu_of hr) (ev_var 0) (ev_var 3)) (ev_var 1)))))
      (es_one (es_ret (ev_var 1))))
noncomputable def e_word_permutation_0 (f_led_along : FS) : SE :=
      (mCall f_led_along (mCons (mVar 2) (mCons (mVar 3) (mCons (mVar 1) mNil))))
noncomputable def m_word_permutation (f_check_system : FS) (f_check_word : FS) (f_letter_tables : FS) (f_led_along : FS) : SS :=
      (sSeq (sExpr (mCall f_check_system (mCons (mVar 0) mNil)))
      (sSeq (sExpr (mCall f_check_word (mCons (mVar 1) (mCons (mFn fLen (mCons (mOp fIx (mVar 0) (mC (.int 1))) mNil)) mNil))))
      (sSeq (sSet 2 (mCall f_letter_tables (mCons (mVar 0) mNil)))
      (sRet (mFn fTuple (mCons (mFrz (mComp (mRng1 (mOp fIx (mVar 0) (mC (.int 0)))) (gN 3) mYes (e_word_permutation_0 f_led_along) [3])) mNil))))))
theorem w_word_permutation {k : Nat} (T : Txt K mg A fd) {f_check_system : FS} (D_check_system : FnD P w K mg base k (A 18) (fd 18) ["S"] f_check_system) {f_check_word : FS} (D_check_word : FnD P w K mg base k (A 25) (fd 25) ["w", "k"] f_check_word) {f_letter_tables : FS} (D_letter_tables : FnD P w K mg base k (A 26) (fd 26) ["S"] f_letter_tables) {f_led_along : FS} (D_led_along : FnD P w K mg base k (A 27) (fd 27) ["tables", "x", "w"] f_led_along) : FnD P w K mg base (k + 1) (A 28) (fd 28) ["S", "w"] (runF N_word_permutation (m_word_permutation f_check_system f_check_word f_letter_tables f_led_along)) := by
  refine fn_def T.F_word_permutation sc_word_permutation fun cdv A_ outer s H E X hX hr tk hp => ?_
  subst hX
  exact (es_cons (es_expr (ev_call D_check_system hr tk T.m_check_system T.F_check_system.kp (b_check_system T) (ea_cons (ev_var 0) ea_nil) (lenA_cons lenA_nil)))
      (es_cons (es_expr (ev_call D_check_word hr tk T.m_check_word T.F_check_word.kp (b_check_word T) (ea_cons (ev_var 1) (ea_cons (ev_bf cs_len T.z_len PySem.boot_len (ea_cons (ev_ix (ev_var 0) ev_int) ea_nil)) ea_nil)) (lenA_cons (lenA_cons lenA_nil))))
      (es_cons (es_set 2 sc_word_permutation.nd (ev_call D_letter_tables hr tk T.m_letter_tables T.F_letter_tables.kp (b_letter_tables T) (ea_cons (ev_var 0) ea_nil) (lenA_cons lenA_nil)))
      (es_one (es_ret (ev_bt cs_tuple T.z_tuple PyProof.Rows.boot_tuple (ea_cons (ev_frz (ef_comp (own := [("x", 3)]) rfl sc_word_permutation.nd (ei_range1 T.z_range (ev_ix (ev_var 0) ev_int)) (blkOk_by (N := N_word_permutation) (sc := defScope s_word_permutation) (own := [("x", 3)]) (by decide +kernel)) (fun s_ H_ C_ cl_ fp_ => (eg_name (vs := _) 3 sc_word_permutation.nd)) (fun s_ H_ C_ cl_ fp_ => eif_nil) (fun s_ H_ C_ cl_ fp_ => (ev_call D_led_along hr takes_none5 T.m_led_along T.F_led_along.kp (b_led_along T) (ea_cons (ev_var 2) (ea_cons (ev_var 3) (ea_cons (ev_var 1) ea_nil))) (lenA_cons (lenA_cons (lenA_cons lenA_nil))))))) ea_nil)))))))
noncomputable def b_law_letters_0 : SS :=
      (sSet 1 (mNew (mCatLF (mVar 1) (mCons (mVar 2) (mCons (mNeg (mVar 2)) mNil)))))
noncomputable def m_law_letters : SS :=
      (sSeq (sSet 1 (mNew mNil))
      (sSeq (sFor (mRng2 (mC (.int 1)) (mOp fAdd (mVar 0) (mC (.int 1)))) (gN 2) b_law_letters_0)
      (sRet (mVar 1))))
theorem w_law_letters {k : Nat} (T : Txt K mg A fd) : FnD P w K mg base (k + 1) (A 52) (fd 52) ["k"] (runF N_law_letters (m_law_letters)) := by
  refine fn_def T.F_law_letters sc_law_letters fun cdv A_ outer s H E X hX hr tk hp => ?_
  subst hX
  exact (es_cons (es_set 1 sc_law_letters.nd (ev_new (ef_lst ea_nil lenA_nil)))
      (es_cons (es_for hp rfl (ei_range2 T.z_range ev_int (ev_op opS_add (ev_var 0) ev_int)) (eg_name (vs := [2]) 2 sc_law_letters.nd) (es_one (es_set 1 sc_law_letters.nd (ev_new (ef_catLF (ev_var 1) (ef_lst (ea_cons (ev_var 2) (ea_cons (ev_neg (ev_var 2)) ea_nil)) (lenA_cons (lenA_cons lenA_nil))))))))
      (es_one (es_ret (ev_var 1)))))
noncomputable def e_law_word_0 (f_law_take : FS) : SE :=
      (mOp fIx (mVar 3) (mCall f_law_take (mCons (mVar 0) (mCons (mOp fMulG (mC (.int 2)) (mVar 1)) mNil))))
noncomputable def m_law_word (f_law_letters : FS) (f_law_take : FS) : SS :=
      (sSeq (sIf (mB (mOp fEq (mVar 1) (mC (.int 0)))) (sRet (mTup mNil)) sSkip)
      (sSeq (sSet 3 (mCall f_law_letters (mCons (mVar 1) mNil)))
      (sRet (mFn fTuple (mCons (mFrz (mComp (mRng1 (mCall f_law_take (mCons (mVar 0) (mCons (mOp fAdd (mVar 2) (mC (.int 1))) mNil)))) (gN 4) mYes (e_law_word_0 f_law_take) [4])) mNil)))))
theorem w_law_word {k : Nat} (T : Txt K mg A fd) {f_law_letters : FS} (D_law_letters : FnD P w K mg base k (A 52) (fd 52) ["k"] f_law_letters) {f_law_take : FS} (D_law_take : FnD P w K mg base k (A 41) (fd 41) ["state", "m"] f_law_take) : FnD P w K mg base (k + 1) (A 57) (fd 57) ["state", "k", "most"] (runF N_law_word (m_law_word f_law_letters f_law_take)) := by
  refine fn_def T.F_law_word sc_law_word fun cdv A_ outer s H E X hX hr tk hp => ?_
  subst hX
  exact (es_cons (es_if (et_cmp (opS_eq hr.units) (ev_var 1) ev_int (nomark _)) (es_one (es_ret (ev_tup ea_nil lenA_nil))) es_nil)
      (es_cons (es_set 3 sc_law_word.nd (ev_call D_law_letters hr tk T.m_law_letters T.F_law_letters.kp (b_law_letters T) (ea_cons (ev_var 1) ea_nil) (lenA_cons lenA_nil)))
      (es_one (es_ret (ev_bt cs_tuple T.z_tuple PyProof.Rows.boot_tuple (ea_cons (ev_frz (ef_comp (own := [("turn", 4)]) rfl sc_law_word.nd (ei_range1 T.z_range (ev_call D_law_take hr tk T.m_law_take T.F_law_take.kp (b_law_take T) (ea_cons (ev_var 0) (ea_cons (ev_op opS_add (ev_var 2) ev_int) ea_nil)) (lenA_cons (lenA_cons lenA_nil)))) (blkOk_by (N := N_law_word) (sc := defScope s_law_word) (own := [("turn", 4)]) (by decide +kernel)) (fun s_ H_ C_ cl_ fp_ => (eg_name (vs := _) 4 sc_law_word.nd)) (fun s_ H_ C_ cl_ fp_ => eif_nil) (fun s_ H_ C_ cl_ fp_ => (ev_ix (ev_var 3) (ev_call D_law_take hr takes_none5 T.m_law_take T.F_law_take.kp (b_law_take T) (ea_cons (ev_var 0) (ea_cons (ev_op opS_mulG ev_int (ev_var 1)) ea_nil)) (lenA_cons (lenA_cons lenA_nil))))))) ea_nil))))))
noncomputable def e_told_system_0 (f_led_along : FS) : SE :=
      (mCall f_led_along (mCons (mVar 2) (mCons (mVar 4) (mCons (mVar 3) mNil))))
noncomputable def e_told_system_1 (f_led_along : FS) : SE :=
      (mFn fTuple (mCons (mFrz (mComp (mRng1 (mOp fIx (mVar 0) (mC (.int 0)))) (gN 4) mYes (e_told_system_0 f_led_along) [4])) mNil))
noncomputable def e_told_system_2 (f_is_word : FS) : SE :=
      (mCall f_is_word (mCons (mVar 3) (mCons (mFn fLen (mCons (mOp fIx (mVar 0) (mC (.int 1))) mNil)) mNil)))
noncomputable def m_told_system (A : Nat → Addr) (f_check_system : FS) (f_letter_tables : FS) (f_is_word : FS) (f_led_along : FS) : SS :=
      (sSeq (sExpr (mCall f_check_system (mCons (mVar 0) mNil)))
      (sSeq (sIf (mOr (mNot (mB (mIsi (mVar 1) .tup))) (mOr (mB (mOp fGt (mFn fLen (mCons (mVar 1) mNil)) (mC (.int 12)))) (mNot (mB (mFn fAll (mCons (mFrz (mComp (mItems (mVar 1)) (gN 3) mYes (e_told_system_2 f_is_word) [3])) mNil)))))) (sRaise (A 2)) sSkip)
      (sSeq (sSet 2 (mCall f_letter_tables (mCons (mVar 0) mNil)))
      (sRet (mTup (mCons (mOp fIx (mVar 0) (mC (.int 0))) (mCons (mFn fTuple (mCons (mFrz (mComp (mItems (mVar 1)) (gN 3) mYes (e_told_system_1 f_led_along) [3])) mNil)) mNil)))))))
theorem w_told_system {k : Nat} (T : Txt K mg A fd) {f_check_system : FS} (D_check_system : FnD P w K mg base k (A 18) (fd 18) ["S"] f_check_system) {f_letter_tables : FS} (D_letter_tables : FnD P w K mg base k (A 26) (fd 26) ["S"] f_letter_tables) {f_is_word : FS} (D_is_word : FnD P w K mg base k (A 24) (fd 24) ["value", "k"] f_is_word) {f_led_along : FS} (D_led_along : FnD P w K mg base k (A 27) (fd 27) ["tables", "x", "w"] f_led_along) : FnD P w K mg base (k + 1) (A 36) (fd 36) ["S", "words"] (runF N_told_system (m_told_system A f_check_system f_letter_tables f_is_word f_led_along)) := by
  obtain ⟨t_MOST_RANK, c_MOST_RANK⟩ := T.c_MOST_RANK
  refine fn_def T.F_told_system sc_told_system fun cdv A_ outer s H E X hX hr tk hp => ?_
  subst hX
  exact (es_cons (es_expr (ev_call D_check_system hr tk T.m_check_system T.F_check_system.kp (b_check_system T) (ea_cons (ev_var 0) ea_nil) (lenA_cons lenA_nil)))
      (es_cons (es_if (et_of (ew_or (et_not (et_val (ev_isi .tup T.z_isinstance T.z_tuple PyProof.Rows.boot_tuple (ev_var 1)))) (ew_or (et_cmp opS_gt (ev_bf cs_len T.z_len PySem.boot_len (ea_cons (ev_var 1) ea_nil)) (ev_gint rfl c_MOST_RANK) (nomark _)) (ew_or1 (et_not (et_val (ev_bf (cs_all rfl) T.z_all PyProof.Rows.boot_all (ea_cons (ev_frz (ef_comp (own := [("w", 3)]) rfl sc_told_system.nd (ei_seq (ev_var 1)) (blkOk_by (N := N_told_system) (sc := defScope s_told_system) (own := [("w", 3)]) (by decide +kernel)) (fun s_ H_ C_ cl_ fp_ => (eg_name (vs := _) 3 sc_told_system.nd)) (fun s_ H_ C_ cl_ fp_ => eif_nil) (fun s_ H_ C_ cl_ fp_ => (ev_call D_is_word hr takes_none5 T.m_is_word T.F_is_word.kp (b_is_word T) (ea_cons (ev_var 3) (ea_cons (ev_bf cs_len T.z_len PySem.boot_len (ea_cons (ev_ix (ev_var 0) ev_int) ea_nil)) ea_nil)) (lenA_cons (lenA_cons lenA_nil)))))) ea_nil)))))))) (es_one (es_raise rfl tk T.q_Malformed T.m_Malformed T.k_Malformed T.b_Malformed T.t_Malformed)) es_nil)
      (es_cons (es_set 2 sc_told_system.nd (ev_call D_letter_tables hr tk T.m_letter_tables T.F_letter_tables.kp (b_letter_tables T) (ea_cons (ev_var 0) ea_nil) (lenA_cons lenA_nil)))
      (es_one (es_ret (ev_tup (ea_cons (ev_ix (ev_var 0) ev_int) (ea_cons (ev_bt cs_tuple T.z_tuple PyProof.Rows.boot_tuple (ea_cons (ev_frz (ef_comp (own := [("w", 3)]) rfl sc_told_system.nd (ei_seq (ev_var 1)) (blkOk_by (N := N_told_system) (sc := defScope s_told_system) (own := [("w", 3)]) (by decide +kernel)) (fun s_ H_ C_ cl_ fp_ => (eg_name (vs := _) 3 sc_told_system.nd)) (fun s_ H_ C_ cl_ fp_ => eif_nil) (fun s_ H_ C_ cl_ fp_ => (ev_bt cs_tuple T.z_tuple PyProof.Rows.boot_tuple (ea_cons (ev_frz (ef_comp (own := [("x", 4)]) rfl sc_told_system.nd (ei_range1 T.z_range (ev_ix (ev_var 0) ev_int)) (blkOk_by (by kernel_rfl)) (fun s_ H_ C_ cl_ fp_ => (eg_name (vs := _) 4 sc_told_system.nd)) (fun s_ H_ C_ cl_ fp_ => eif_nil) (fun s_ H_ C_ cl_ fp_ => (ev_call D_led_along hr takes_none5 T.m_led_along T.F_led_along.kp (b_led_along T) (ea_cons (ev_var 2) (ea_cons (ev_var 4) (ea_cons (ev_var 3) ea_nil))) (lenA_cons (lenA_cons (lenA_cons lenA_nil))))))) ea_nil))))) ea_nil)) ea_nil)) (lenA_cons (lenA_cons lenA_nil))))))))
noncomputable def b_found_parts_0 : SS :=
      (sSeq (sSet 7 (mOp fIx (mVar 6) (mOp fIx (mVar 4) (mVar 5))))
      (sIf (mB (mOp (fDIn false) (mVar 7) (mVar 2))) (sSeq (sSub fSetD (mVar 2) (mVar 7) (mC (.bl true)))
      (sExpr (mMeth fApp (mVar 4) (mCons (mVar 7) mNil)))) sSkip))
noncomputable def c_found_parts_0 : SB :=
      (mB (mOp fLt (mVar 5) (mFn fLen (mCons (mVar 4) mNil))))
noncomputable def b_found_parts_1 : SS :=
      (sSeq (sFor (mItems (mOp fIx (mVar 0) (mC (.int 1)))) (gN 6) b_found_parts_0)
      (sAug 5 (onII fun i j => .int (i + j)) (mC (.int 1))))
noncomputable def b_found_parts_2 : SS :=
      (sIf (mB (mOp (fDIn false) (mVar 3) (mVar 2))) (sSeq (sSub fSetD (mVar 2) (mVar 3) (mC (.bl true)))
      (sSeq (sSet 4 (mNew (mCons (mVar 3) mNil)))
      (sSeq (sSet 5 (mC (.int 0)))
      (sSeq (sWhile c_found_parts_0 b_found_parts_1)
      (sExpr (mMeth fApp (mVar 1) (mCons (mFn fTuple (mCons (mFrz (mFn fSorted (mCons (mVar 4) mNil))) mNil)) mNil))))))) sSkip)
noncomputable def m_found_parts : SS :=
      (sSeq (sSet 1 (mNew mNil))
      (sSeq (sSet 2 mDNewK)
      (sSeq (sFor (mRng1 (mOp fIx (mVar 0) (mC (.int 0)))) (gN 3) b_found_parts_2)
      (sRet (mVar 1)))))
theorem w_found_parts {k : Nat} (T : Txt K mg A fd) : FnD P w K mg base (k + 1) (A 21) (fd 21) ["S"] (runF N_found_parts (m_found_parts)) := by
  refine fn_def T.F_found_parts sc_found_parts fun cdv A_ outer s H E X hX hr tk hp => ?_
  subst hX
  exact (es_cons (es_set 1 sc_found_parts.nd (ev_new (ef_lst ea_nil lenA_nil)))
      (es_cons (es_set 2 sc_found_parts.nd ev_dnewK)
      (es_cons (es_for hp rfl (ei_range1 T.z_range (ev_ix (ev_var 0) ev_int)) (eg_name (vs := [3]) 3 sc_found_parts.nd) (es_one (es_if (et_dnotin (hu_of hr) (ev_var 3) (ev_var 2)) (es_cons (es_dput (hu_of hr) (ev_var 2) (ev_var 3) ev_bl)
      (es_cons (es_set 4 sc_found_parts.nd (ev_new (ef_lst (ea_cons (ev_var 3) ea_nil) (lenA_cons lenA_nil))))
      (es_cons (es_set 5 sc_found_parts.nd ev_int)
      (es_cons (es_while hp (et_cmp opS_lt (ev_var 5) (ev_bf cs_len T.z_len PySem.boot_len (ea_cons (ev_var 4) ea_nil)) (nomark _)) (es_cons (es_for hp rfl (ei_seq (ev_ix (ev_var 0) ev_int)) (eg_name (vs := [6]) 6 sc_found_parts.nd) (es_cons (es_set 7 sc_found_parts.nd (ev_ix (ev_var 6) (ev_ix (ev_var 4) (ev_var 5))))
      (es_one (es_if (et_dnotin (hu_of hr) (ev_var 7) (ev_var 2)) (es_cons (es_dput (hu_of hr) (ev_var 2) (ev_var 7) ev_bl)
      (es_one (es_expr (ev_bm PySem.F.slot_list_append rfl ms_append (ev_var 4) (ea_cons (ev_var 7) ea_nil))))) es_nil))))
      (es_one (es_aug 5 sc_found_parts.nd ios_add ev_int))))
      (es_one (es_expr (ev_bm PySem.F.slot_list_append rfl ms_append (ev_var 1) (ea_cons (ev_bt cs_tuple T.z_tuple PyProof.Rows.boot_tuple (ea_cons (ev_frz (ev_bf cs_sorted T.z_sorted PyProof.Rows.boot_sorted (ea_cons (ev_var 4) ea_nil))) ea_nil)) ea_nil)))))))) es_nil)))
      (es_one (es_ret (ev_var 1))))))
noncomputable def m_system_parts (f_check_system : FS) (f_found_parts : FS) : SS :=
      (sSeq (sExpr (mCall f_check_system (mCons (mVar 0) mNil)))
      (sRet (mFn fTuple (mCons (mCall f_found_parts (mCons (mVar 0) mNil)) mNil))))
theorem w_system_parts {k : Nat} (T : Txt K mg A fd) {f_check_system : FS} (D_check_system : FnD P w K mg base k (A 18) (fd 18) ["S"] f_check_system) {f_found_parts : FS} (D_found_parts : FnD P w K mg base k (A 21) (fd 21) ["S"] f_found_parts) : FnD P w K mg base (k + 1) (A 29) (fd 29) ["S"] (runF N_system_parts (m_system_parts f_check_system f_found_parts)) := by
  refine fn_def T.F_system_parts sc_system_parts fun cdv A_ outer s H E X hX hr tk hp => ?_
  subst hX
  exact (es_cons (es_expr (ev_call D_check_system hr tk T.m_check_system T.F_check_system.kp (b_check_system T) (ea_cons (ev_var 0) ea_nil) (lenA_cons lenA_nil)))
      (es_one (es_ret (ev_bt cs_tuple T.z_tuple PyProof.Rows.boot_tuple (ea_cons (ev_call D_found_parts hr tk T.m_found_parts T.F_found_parts.kp (b_found_parts T) (ea_cons (ev_var 0) ea_nil) (lenA_cons lenA_nil)) ea_nil)))))
noncomputable def c_law_cycles_0 : SB :=
      (mNot (mB (mOp fIx (mVar 1) (mVar 5))))
noncomputable def b_law_cycles_0 : SS :=
      (sSeq (sSub fSetL (mVar 1) (mVar 5) (mC (.bl true)))
      (sSeq (sExpr (mMeth fApp (mVar 4) (mCons (mVar 5) mNil)))
      (sSet 5 (mOp fIx (mVar 0) (mVar 5)))))
noncomputable def b_law_cycles_1 : SS :=
      (sIf (mNot (mB (mOp fIx (mVar 1) (mVar 3)))) (sSeq (sPar 4 5 (mNew mNil) (mVar 3))
      (sSeq (sWhile c_law_cycles_0 b_law_cycles_0)
      (sExpr (mMeth fApp (mVar 2) (mCons (mFn fTuple (mCons (mVar 4) mNil)) mNil))))) sSkip)
noncomputable def e_law_cycles_0 : SE :=
      (mC (.bl false))
noncomputable def m_law_cycles : SS :=
      (sSeq (sPar 1 2 (mNew (mComp (mItems (mVar 0)) (gN 3) mYes e_law_cycles_0 [3])) (mNew mNil))
      (sSeq (sFor (mRng1 (mFn fLen (mCons (mVar 0) mNil))) (gN 3) b_law_cycles_1)
      (sRet (mVar 2))))
theorem w_law_cycles {k : Nat} (T : Txt K mg A fd) : FnD P w K mg base (k + 1) (A 46) (fd 46) ["p"] (runF N_law_cycles (m_law_cycles)) := by
  refine fn_def T.F_law_cycles sc_law_cycles fun cdv A_ outer s H E X hX hr tk hp => ?_
  subst hX
  exact (es_cons (es_par 1 2 rfl sc_law_cycles.nd (ev_new (ef_comp (own := [("x", 3)]) rfl sc_law_cycles.nd (ei_seq (ev_var 0)) (blkOk_by (N := N_law_cycles) (sc := defScope s_law_cycles) (own := [("x", 3)]) (by decide +kernel)) (fun s_ H_ C_ cl_ fp_ => (eg_name (vs := _) 3 sc_law_cycles.nd)) (fun s_ H_ C_ cl_ fp_ => eif_nil) (fun s_ H_ C_ cl_ fp_ => ev_bl))) (ev_new (ef_lst ea_nil lenA_nil)))
      (es_cons (es_for hp rfl (ei_range1 T.z_range (ev_bf cs_len T.z_len PySem.boot_len (ea_cons (ev_var 0) ea_nil))) (eg_name (vs := [3]) 3 sc_law_cycles.nd) (es_one (es_if (et_not (et_val (ev_ix (ev_var 1) (ev_var 3)))) (es_cons (es_par 4 5 rfl sc_law_cycles.nd (ev_new (ef_lst ea_nil lenA_nil)) (ev_var 3))
      (es_cons (es_while hp (et_not (et_val (ev_ix (ev_var 1) (ev_var 5)))) (es_cons (es_sub (ev_var 1) (ev_var 5) ev_bl)
      (es_cons (es_expr (ev_bm PySem.F.slot_list_append rfl ms_append (ev_var 4) (ea_cons (ev_var 5) ea_nil)))
      (es_one (es_set 5 sc_law_cycles.nd (ev_ix (ev_var 0) (ev_var 5)))))))
      (es_one (es_expr (ev_bm PySem.F.slot_list_append rfl ms_append (ev_var 2) (ea_cons (ev_bt cs_tuple T.z_tuple PyProof.Rows.boot_tuple (ea_cons (ev_var 4) ea_nil)) ea_nil)))))) es_nil)))
      (es_one (es_ret (ev_var 2)))))
noncomputable def e_law_type_0 : SE :=
      (mFn fLen (mCons (mVar 1) mNil))
noncomputable def m_law_type (f_law_cycles : FS) : SS :=
      (sRet (mFn fTuple (mCons (mFrz (mRevL (mFrz (mFn fSorted (mCons (mFrz (mComp (mItems (mCall f_law_cycles (mCons (mVar 0) mNil))) (gN 1) mYes e_law_type_0 [1])) mNil))))) mNil)))
theorem w_law_type {k : Nat} (T : Txt K mg A fd) {f_law_cycles : FS} (D_law_cycles : FnD P w K mg base k (A 46) (fd 46) ["p"] f_law_cycles) : FnD P w K mg base (k + 1) (A 47) (fd 47) ["p"] (runF N_law_type (m_law_type f_law_cycles)) := by
  refine fn_def T.F_law_type sc_law_type fun cdv A_ outer s H E X hX hr tk hp => ?_
  subst hX
  exact (es_one (es_ret (ev_bt cs_tuple T.z_tuple PyProof.Rows.boot_tuple (ea_cons (ev_frz (ef_revL (ev_frz (ev_bf cs_sorted T.z_sorted PyProof.Rows.boot_sorted (ea_cons (ev_frz (ef_comp (own := [("cycle", 1)]) rfl sc_law_type.nd (ei_seq (ev_call D_law_cycles hr tk T.m_law_cycles T.F_law_cycles.kp (b_law_cycles T) (ea_cons (ev_var 0) ea_nil) (lenA_cons lenA_nil))) (blkOk_by (N := N_law_type) (sc := defScope s_law_type) (own := [("cycle", 1)]) (by decide +kernel)) (fun s_ H_ C_ cl_ fp_ => (eg_name (vs := _) 1 sc_law_type.nd)) (fun s_ H_ C_ cl_ fp_ => eif_nil) (fun s_ H_ C_ cl_ fp_ => (ev_bf cs_len T.z_len PySem.boot_len (ea_cons (ev_var 1) ea_nil))))) ea_nil))))) ea_nil))))
noncomputable def b_law_renumbered_0 : SS :=
      (sSub fSetL (mVar 2) (mOp fIx (mVar 1) (mVar 3)) (mOp fIx (mVar 1) (mOp fIx (mVar 0) (mVar 3))))
noncomputable def e_law_renumbered_0 : SE :=
      (mC (.int 0))
noncomputable def m_law_renumbered : SS :=
      (sSeq (sSet 2 (mNew (mComp (mItems (mVar 0)) (gN 3) mYes e_law_renumbered_0 [3])))
      (sSeq (sFor (mRng1 (mFn fLen (mCons (mVar 0) mNil))) (gN 3) b_law_renumbered_0)
      (sRet (mFn fTuple (mCons (mVar 2) mNil)))))
theorem w_law_renumbered {k : Nat} (T : Txt K mg A fd) : FnD P w K mg base (k + 1) (A 49) (fd 49) ["p", "f"] (runF N_law_renumbered (m_law_renumbered)) := by
  refine fn_def T.F_law_renumbered sc_law_renumbered fun cdv A_ outer s H E X hX hr tk hp => ?_
  subst hX
  exact (es_cons (ps_setC (i := 2) (own := [("x", 3)]) (sm := mNew) (fun _ _ _ h_ => tM.new h_) rfl sc_law_renumbered.nd (ei_seq (ev_var 0)) (blkOk_by (N := N_law_renumbered) (sc := defScope s_law_renumbered) (own := [("x", 3)]) (by decide +kernel)) (fun s_ H_ C_ cl_ fp_ => (eg_name (vs := _) 3 sc_law_renumbered.nd)) (fun s_ H_ C_ cl_ fp_ => eif_nil) (fun s_ H_ C_ cl_ fp_ => ev_int))
      (es_cons (es_for hp rfl (ei_range1 T.z_range (ev_bf cs_len T.z_len PySem.boot_len (ea_cons (ev_var 0) ea_nil))) (eg_name (vs := [3]) 3 sc_law_renumbered.nd) (es_one (es_sub (ev_var 2) (ev_ix (ev_var 1) (ev_var 3)) (ev_ix (ev_var 1) (ev_ix (ev_var 0) (ev_var 3))))))
      (es_one (es_ret (ev_bt cs_tuple T.z_tuple PyProof.Rows.boot_tuple (ea_cons (ev_var 2) ea_nil))))))
noncomputable def e_law_turned_system_0 (f_law_renumbered : FS) : SE :=
      (mCall f_law_renumbered (mCons (mVar 2) (mCons (mVar 1) mNil)))
noncomputable def m_law_turned_system (f_law_renumbered : FS) : SS :=
      (sRet (mTup (mCons (mOp fIx (mVar 0) (mC (.int 0))) (mCons (mFn fTuple (mCons (mFrz (mComp (mItems (mOp fIx (mVar 0) (mC (.int 1)))) (gN 2) mYes (e_law_turned_system_0 f_law_renumbered) [2])) mNil)) mNil))))
theorem w_law_turned_system {k : Nat} (T : Txt K mg A fd) {f_law_renumbered : FS} (D_law_renumbered : FnD P w K mg base k (A 49) (fd 49) ["p", "f"] f_law_renumbered) : FnD P w K mg base (k + 1) (A 50) (fd 50) ["S", "f"] (runF N_law_turned_system (m_law_turned_system f_law_renumbered)) := by
  refine fn_def T.F_law_turned_system sc_law_turned_system fun cdv A_ outer s H E X hX hr tk hp => ?_
  subst hX
  exact (es_one (es_ret (ev_tup (ea_cons (ev_ix (ev_var 0) ev_int) (ea_cons (ev_bt cs_tuple T.z_tuple PyProof.Rows.boot_tuple (ea_cons (ev_frz (ef_comp (own := [("p", 2)]) rfl sc_law_turned_system.nd (ei_seq (ev_ix (ev_var 0) ev_int)) (blkOk_by (N := N_law_turned_system) (sc := defScope s_law_turned_system) (own := [("p", 2)]) (by decide +kernel)) (fun s_ H_ C_ cl_ fp_ => (eg_name (vs := _) 2 sc_law_turned_system.nd)) (fun s_ H_ C_ cl_ fp_ => eif_nil) (fun s_ H_ C_ cl_ fp_ => (ev_call D_law_renumbered hr takes_none5 T.m_law_renumbered T.F_law_renumbered.kp (b_law_renumbered T) (ea_cons (ev_var 2) (ea_cons (ev_var 1) ea_nil)) (lenA_cons (lenA_cons lenA_nil)))))) ea_nil)) ea_nil)) (lenA_cons (lenA_cons lenA_nil)))))
noncomputable def e_law_numbered_0 : SE :=
      (mOp fDGet (mVar 2) (mVar 6))
noncomputable def b_law_numbered_0 : SS :=
      (sSeq (sSet 6 (mOp fIx (mVar 5) (mOp fIx (mVar 3) (mVar 4))))
      (sIf (mB (mOp (fDIn false) (mVar 6) (mVar 2))) (sSeq (sSub fSetD (mVar 2) (mVar 6) (mFn fLen (mCons (mVar 3) mNil)))
      (sExpr (mMeth fApp (mVar 3) (mCons (mVar 6) mNil)))) sSkip))
noncomputable def c_law_numbered_0 : SB :=
      (mB (mOp fLt (mVar 4) (mFn fLen (mCons (mVar 3) mNil))))
noncomputable def b_law_numbered_1 : SS :=
      (sSeq (sFor (mItems (mOp fIx (mVar 0) (mC (.int 1)))) (gN 5) b_law_numbered_0)
      (sSet 4 (mOp fAdd (mVar 4) (mC (.int 1)))))
noncomputable def m_law_numbered (f_law_turned_system : FS) : SS :=
      (sSeq (sAsg (gT (gsCons (gN 2) (gsCons (gN 3) gsNil))) (mTup (mCons (mDisp1 (mVar 1) (mC (.int 0))) (mCons (mNew (mCons (mVar 1) mNil)) mNil))))
      (sSeq (sSet 4 (mC (.int 0)))
      (sSeq (sWhile c_law_numbered_0 b_law_numbered_1)
      (sRet (mCall f_law_turned_system (mCons (mVar 0) (mCons (mFn fTuple (mCons (mFrz (mComp (mRng1 (mOp fIx (mVar 0) (mC (.int 0)))) (gN 6) mYes e_law_numbered_0 [6])) mNil)) mNil)))))))
theorem w_law_numbered {k : Nat} (T : Txt K mg A fd) {f_law_turned_system : FS} (D_law_turned_system : FnD P w K mg base k (A 50) (fd 50) ["S", "f"] f_law_turned_system) : FnD P w K mg base (k + 1) (A 51) (fd 51) ["S", "x"] (runF N_law_numbered (m_law_numbered f_law_turned_system)) := by
  refine fn_def T.F_law_numbered sc_law_numbered fun cdv A_ outer s H E X hX hr tk hp => ?_
  subst hX
  exact (es_cons (es_asg (ev_tup (ea_cons (ev_disp1 (ev_var 1) ev_int) (ea_cons (ev_new (ef_lst (ea_cons (ev_var 1) ea_nil) (lenA_cons lenA_nil))) ea_nil)) (lenA_cons (lenA_cons lenA_nil))) (eg_tup rfl (egs_cons (eg_name (vs := [2, 3]) 2 sc_law_numbered.nd) (egs_cons (eg_name (vs := [2, 3]) 3 sc_law_numbered.nd) egs_nil)) (lenG_cons (lenG_cons lenG_nil))))
      (es_cons (es_set 4 sc_law_numbered.nd ev_int)
      (es_cons (es_while hp (et_cmp opS_lt (ev_var 4) (ev_bf cs_len T.z_len PySem.boot_len (ea_cons (ev_var 3) ea_nil)) (nomark _)) (es_cons (es_for hp rfl (ei_seq (ev_ix (ev_var 0) ev_int)) (eg_name (vs := [5]) 5 sc_law_numbered.nd) (es_cons (es_set 6 sc_law_numbered.nd (ev_ix (ev_var 5) (ev_ix (ev_var 3) (ev_var 4))))
      (es_one (es_if (et_dnotin (hu_of hr) (ev_var 6) (ev_var 2)) (es_cons (es_dput (hu_of hr) (ev_var 2) (ev_var 6) (ev_bf cs_len T.z_len PySem.boot_len (ea_cons (ev_var 3) ea_nil)))
      (es_one (es_expr (ev_bm PySem.F.slot_list_append rfl ms_append (ev_var 3) (ea_cons (ev_var 6) ea_nil))))) es_nil))))
      (es_one (es_set 4 sc_law_numbered.nd (ev_op opS_add (ev_var 4) ev_int)))))
      (es_one (es_ret (ev_call D_law_turned_system hr tk T.m_law_turned_system T.F_law_turned_system.kp (b_law_turned_system T) (ea_cons (ev_var 0) (ea_cons (ev_bt cs_tuple T.z_tuple PyProof.Rows.boot_tuple (ea_cons (ev_frz (ef_comp (own := [("y", 6)]) rfl sc_law_numbered.nd (ei_range1 T.z_range (ev_ix (ev_var 0) ev_int)) (blkOk_by (N := N_law_numbered) (sc := defScope s_law_numbered) (own := [("y", 6)]) (by decide +kernel)) (fun s_ H_ C_ cl_ fp_ => (eg_name (vs := _) 6 sc_law_numbered.nd)) (fun s_ H_ C_ cl_ fp_ => eif_nil) (fun s_ H_ C_ cl_ fp_ => (ev_dget (hu_of hr) (ev_var 2) (ev_var 6))))) ea_nil)) ea_nil)) (lenA_cons (lenA_cons lenA_nil))))))))
noncomputable def m_law_step (f_law_inverse : FS) : SS :=
      (sSeq (sSet 3 (mOp fIx (mOp fIx (mVar 0) (mC (.int 1))) (mOp fSub (mFn fAbs (mCons (mVar 2) mNil)) (mC (.int 1)))))
      (sRet (mIf (mB (mOp fGt (mVar 2) (mC (.int 0)))) (mOp fIx (mVar 3) (mVar 1)) (mOp fIx (mCall f_law_inverse (mCons (mVar 3) mNil)) (mVar 1)))))
theorem w_law_step {k : Nat} (T : Txt K mg A fd) {f_law_inverse : FS} (D_law_inverse : FnD P w K mg base k (A 42) (fd 42) ["p"] f_law_inverse) : FnD P w K mg base (k + 1) (A 53) (fd 53) ["S", "x", "i"] (runF N_law_step (m_law_step f_law_inverse)) := by
  refine fn_def T.F_law_step sc_law_step fun cdv A_ outer s H E X hX hr tk hp => ?_
  subst hX
  exact (es_cons (es_set 3 sc_law_step.nd (ev_ix (ev_ix (ev_var 0) ev_int) (ev_op opS_sub (ev_bf cs_abs T.z_abs PyProof.Rows.boot_abs (ea_cons (ev_var 2) ea_nil)) ev_int)))
      (es_one (es_ret (ev_if (et_cmp opS_gt (ev_var 2) ev_int (nomark _)) (ev_ix (ev_var 3) (ev_var 1)) (ev_ix (ev_call D_law_inverse hr tk T.m_law_inverse T.F_law_inverse.kp (b_law_inverse T) (ea_cons (ev_var 3) ea_nil) (lenA_cons lenA_nil)) (ev_var 1))))))
noncomputable def e_law_leading_0 : SE :=
      (mOp fDGet (mVar 2) (mVar 7))
noncomputable def b_law_leading_0 (f_law_step : FS) : SS :=
      (sSeq (sSet 7 (mCall f_law_step (mCons (mVar 0) (mCons (mOp fIx (mVar 3) (mVar 5)) (mCons (mVar 6) mNil)))))
      (sIf (mB (mOp (fDIn false) (mVar 7) (mVar 2))) (sSeq (sSub fSetD (mVar 2) (mVar 7) (mOp fAdd (mOp fDGet (mVar 2) (mOp fIx (mVar 3) (mVar 5))) (mTup (mCons (mVar 6) mNil))))
      (sExpr (mMeth fApp (mVar 3) (mCons (mVar 7) mNil)))) sSkip))
noncomputable def c_law_leading_0 : SB :=
      (mB (mOp fLt (mVar 5) (mFn fLen (mCons (mVar 3) mNil))))
noncomputable def b_law_leading_1 (f_law_step : FS) : SS :=
      (sSeq (sFor (mItems (mVar 4)) (gN 6) (b_law_leading_0 f_law_step))
      (sSet 5 (mOp fAdd (mVar 5) (mC (.int 1)))))
noncomputable def m_law_leading (f_law_letters : FS) (f_law_step : FS) : SS :=
      (sSeq (sAsg (gT (gsCons (gN 2) (gsCons (gN 3) gsNil))) (mTup (mCons (mDisp1 (mVar 1) (mTup mNil)) (mCons (mNew (mCons (mVar 1) mNil)) mNil))))
      (sSeq (sSet 4 (mCall f_law_letters (mCons (mFn fLen (mCons (mOp fIx (mVar 0) (mC (.int 1))) mNil)) mNil)))
      (sSeq (sSet 5 (mC (.int 0)))
      (sSeq (sWhile c_law_leading_0 (b_law_leading_1 f_law_step))
      (sRet (mFn fTuple (mCons (mFrz (mComp (mRng1 (mOp fIx (mVar 0) (mC (.int 0)))) (gN 7) mYes e_law_leading_0 [7])) mNil)))))))
theorem w_law_leading {k : Nat} (T : Txt K mg A fd) {f_law_letters : FS} (D_law_letters : FnD P w K mg base k (A 52) (fd 52) ["k"] f_law_letters) {f_law_step : FS} (D_law_step : FnD P w K mg base k (A 53) (fd 53) ["S", "x", "i"] f_law_step) : FnD P w K mg base (k + 1) (A 54) (fd 54) ["S", "x"] (runF N_law_leading (m_law_leading f_law_letters f_law_step)) := by
  refine fn_def T.F_law_leading sc_law_leading fun cdv A_ outer s H E X hX hr tk hp => ?_
  subst hX
  exact (es_cons (es_asg (ev_tup (ea_cons (ev_disp1 (ev_var 1) (ev_tup ea_nil lenA_nil)) (ea_cons (ev_new (ef_lst (ea_cons (ev_var 1) ea_nil) (lenA_cons lenA_nil))) ea_nil)) (lenA_cons (lenA_cons lenA_nil))) (eg_tup rfl (egs_cons (eg_name (vs := [2, 3]) 2 sc_law_leading.nd) (egs_cons (eg_name (vs := [2, 3]) 3 sc_law_leading.nd) egs_nil)) (lenG_cons (lenG_cons lenG_nil))))
      (es_cons (es_set 4 sc_law_leading.nd (ev_call D_law_letters hr tk T.m_law_letters T.F_law_letters.kp (b_law_letters T) (ea_cons (ev_bf cs_len T.z_len PySem.boot_len (ea_cons (ev_ix (ev_var 0) ev_int) ea_nil)) ea_nil) (lenA_cons lenA_nil)))
      (es_cons (es_set 5 sc_law_leading.nd ev_int)
      (es_cons (es_while hp (et_cmp opS_lt (ev_var 5) (ev_bf cs_len T.z_len PySem.boot_len (ea_cons (ev_var 3) ea_nil)) (nomark _)) (es_cons (es_for hp rfl (ei_seq (ev_var 4)) (eg_name (vs := [6]) 6 sc_law_leading.nd) (es_cons (es_set 7 sc_law_leading.nd (ev_call D_law_step hr tk T.m_law_step T.F_law_step.kp (b_law_step T) (ea_cons (ev_var 0) (ea_cons (ev_ix (ev_var 3) (ev_var 5)) (ea_cons (ev_var 6) ea_nil))) (lenA_cons (lenA_cons (lenA_cons lenA_nil)))))
      (es_one (es_if (et_dnotin (hu_of hr) (ev_var 7) (ev_var 2)) (es_cons (es_dput (hu_of hr) (ev_var 2) (ev_var 7) (ev_op opS_add (ev_dget (hu_of hr) (ev_var 2) (ev_ix (ev_var 3) (ev_var 5))) (ev_tup (ea_cons (ev_var 6) ea_nil) (lenA_cons lenA_nil))))
      (es_one (es_expr (ev_bm PySem.F.slot_list_append rfl ms_append (ev_var 3) (ea_cons (ev_var 7) ea_nil))))) es_nil))))
      (es_one (es_set 5 sc_law_leading.nd (ev_op opS_add (ev_var 5) ev_int)))))
      (es_one (es_ret (ev_bt cs_tuple T.z_tuple PyProof.Rows.boot_tuple (ea_cons (ev_frz (ef_comp (own := [("y", 7)]) rfl sc_law_leading.nd (ei_range1 T.z_range (ev_ix (ev_var 0) ev_int)) (blkOk_by (N := N_law_leading) (sc := defScope s_law_leading) (own := [("y", 7)]) (by decide +kernel)) (fun s_ H_ C_ cl_ fp_ => (eg_name (vs := _) 7 sc_law_leading.nd)) (fun s_ H_ C_ cl_ fp_ => eif_nil) (fun s_ H_ C_ cl_ fp_ => (ev_dget (hu_of hr) (ev_var 2) (ev_var 7))))) ea_nil))))))))
noncomputable def e_law_least_0 (f_law_numbered : FS) : SE :=
      (mCall f_law_numbered (mCons (mVar 0) (mCons (mVar 1) mNil)))
noncomputable def m_law_least (f_law_numbered : FS) : SS :=
      (sRet (mFn fMinA (mCons (mFrz (mComp (mRng1 (mOp fIx (mVar 0) (mC (.int 0)))) (gN 1) mYes (e_law_least_0 f_law_numbered) [1])) mNil)))
theorem w_law_least {k : Nat} (T : Txt K mg A fd) {f_law_numbered : FS} (D_law_numbered : FnD P w K mg base k (A 51) (fd 51) ["S", "x"] f_law_numbered) : FnD P w K mg base (k + 1) (A 55) (fd 55) ["S"] (runF N_law_least (m_law_least f_law_numbered)) := by
  refine fn_def T.F_law_least sc_law_least fun cdv A_ outer s H E X hX hr tk hp => ?_
  subst hX
  exact (es_one (es_ret (ev_bf (cs_minA rfl (hu5_of hr)) T.z_min PyProof.Rows.boot_min (ea_cons (ev_frz (ef_comp (own := [("x", 1)]) rfl sc_law_least.nd (ei_range1 T.z_range (ev_ix (ev_var 0) ev_int)) (blkOk_by (N := N_law_least) (sc := defScope s_law_least) (own := [("x", 1)]) (by decide +kernel)) (fun s_ H_ C_ cl_ fp_ => (eg_name (vs := _) 1 sc_law_least.nd)) (fun s_ H_ C_ cl_ fp_ => eif_nil) (fun s_ H_ C_ cl_ fp_ => (ev_call D_law_numbered hr takes_none5 T.m_law_numbered T.F_law_numbered.kp (b_law_numbered T) (ea_cons (ev_var 0) (ea_cons (ev_var 1) ea_nil)) (lenA_cons (lenA_cons lenA_nil)))))) ea_nil))))
noncomputable def m_has_one_part (f_found_parts : FS) : SS :=
      (sRet (mOp fEq (mFn fLen (mCons (mCall f_found_parts (mCons (mVar 0) mNil)) mNil)) (mC (.int 1))))
theorem w_has_one_part {k : Nat} (T : Txt K mg A fd) {f_found_parts : FS} (D_found_parts : FnD P w K mg base k (A 21) (fd 21) ["S"] f_found_parts) : FnD P w K mg base (k + 1) (A 22) (fd 22) ["S"] (runF N_has_one_part (m_has_one_part f_found_parts)) := by
  refine fn_def T.F_has_one_part sc_has_one_part fun cdv A_ outer s H E X hX hr tk hp => ?_
  subst hX
  exact (es_one (es_ret (ev_cmp (opS_eq hr.units) (ev_bf cs_len T.z_len PySem.boot_len (ea_cons (ev_call D_found_parts hr tk T.m_found_parts T.F_found_parts.kp (b_found_parts T) (ea_cons (ev_var 0) ea_nil) (lenA_cons lenA_nil)) ea_nil)) ev_int (nomark _))))
noncomputable def m_check_connected (A : Nat → Addr) (f_check_system : FS) (f_has_one_part : FS) : SS :=
      (sSeq (sExpr (mCall f_check_system (mCons (mVar 0) mNil)))
      (sIf (mNot (mB (mCall f_has_one_part (mCons (mVar 0) mNil)))) (sRaise (A 2)) sSkip))
theorem w_check_connected {k : Nat} (T : Txt K mg A fd) {f_check_system : FS} (D_check_system : FnD P w K mg base k (A 18) (fd 18) ["S"] f_check_system) {f_has_one_part : FS} (D_has_one_part : FnD P w K mg base k (A 22) (fd 22) ["S"] f_has_one_part) : FnD P w K mg base (k + 1) (A 23) (fd 23) ["S"] (runF N_check_connected (m_check_connected A f_check_system f_has_one_part)) := by
  refine fn_def T.F_check_connected sc_check_connected fun cdv A_ outer s H E X hX hr tk hp => ?_
  subst hX
  exact (es_cons (es_expr (ev_call D_check_system hr tk T.m_check_system T.F_check_system.kp (b_check_system T) (ea_cons (ev_var 0) ea_nil) (lenA_cons lenA_nil)))
      (es_one (es_if (et_not (et_val (ev_call D_has_one_part hr tk T.m_has_one_part T.F_has_one_part.kp (b_has_one_part T) (ea_cons (ev_var 0) ea_nil) (lenA_cons lenA_nil)))) (es_one (es_raise rfl tk T.q_Malformed T.m_Malformed T.k_Malformed T.b_Malformed T.t_Malformed)) es_nil)))
noncomputable def m_is_sheet (f_is_integer : FS) : SS :=
      (sRet (mAndV (mCall f_is_integer (mCons (mVar 0) mNil)) (mChain fLe fLt (mC (.int 0)) (mVar 0) (mOp fIx (mVar 1) (mC (.int 0))))))
theorem w_is_sheet {k : Nat} (T : Txt K mg A fd) {f_is_integer : FS} (D_is_integer : FnD P w K mg base k (A 4) (fd 4) ["value"] f_is_integer) : FnD P w K mg base (k + 1) (A 19) (fd 19) ["value", "S"] (runF N_is_sheet (m_is_sheet f_is_integer)) := by
  refine fn_def T.F_is_sheet sc_is_sheet fun cdv A_ outer s H E X hX hr tk hp => ?_
  subst hX
  exact (es_one (es_ret (ev_and (ev_call D_is_integer hr tk T.m_is_integer T.F_is_integer.kp (b_is_integer T) (ea_cons (ev_var 0) ea_nil) (lenA_cons lenA_nil)) (ev_one (ev_chain opS_le opS_lt ev_int (ev_var 0) (ev_ix (ev_var 1) ev_int))))))
noncomputable def m_check_sheet (A : Nat → Addr) (f_is_sheet : FS) : SS :=
      (sIf (mNot (mB (mCall f_is_sheet (mCons (mVar 0) (mCons (mVar 1) mNil))))) (sRaise (A 2)) sSkip)
theorem w_check_sheet {k : Nat} (T : Txt K mg A fd) {f_is_sheet : FS} (D_is_sheet : FnD P w K mg base k (A 19) (fd 19) ["value", "S"] f_is_sheet) : FnD P w K mg base (k + 1) (A 20) (fd 20) ["x", "S"] (runF N_check_sheet (m_check_sheet A f_is_sheet)) := by
  refine fn_def T.F_check_sheet sc_check_sheet fun cdv A_ outer s H E X hX hr tk hp => ?_
  subst hX
  exact (es_one (es_if (et_not (et_val (ev_call D_is_sheet hr tk T.m_is_sheet T.F_is_sheet.kp (b_is_sheet T) (ea_cons (ev_var 0) (ea_cons (ev_var 1) ea_nil)) (lenA_cons (lenA_cons lenA_nil))))) (es_one (es_raise rfl tk T.q_Malformed T.m_Malformed T.k_Malformed T.b_Malformed T.t_Malformed)) es_nil))
noncomputable def e_counted_from_0 : SE :=
      (mOp fDGet (mVar 3) (mOp fIx (mVar 5) (mVar 6)))
noncomputable def e_counted_from_1 : SE :=
      (mFn fTuple (mCons (mFrz (mCompL (mItL (mVar 2)) (gN 6) mYes e_counted_from_0 [6])) mNil))
noncomputable def b_counted_from_0 : SS :=
      (sSeq (sSet 6 (mOp fIx (mVar 5) (mOp fIx (mVar 2) (mVar 4))))
      (sIf (mB (mOp (fDIn false) (mVar 6) (mVar 3))) (sSeq (sSub fSetD (mVar 3) (mVar 6) (mFn fLen (mCons (mVar 2) mNil)))
      (sExpr (mMeth fApp (mVar 2) (mCons (mVar 6) mNil)))) sSkip))
noncomputable def c_counted_from_0 : SB :=
      (mB (mOp fLt (mVar 4) (mFn fLen (mCons (mVar 2) mNil))))
noncomputable def b_counted_from_1 : SS :=
      (sSeq (sFor (mItems (mOp fIx (mVar 0) (mC (.int 1)))) (gN 5) b_counted_from_0)
      (sAug 4 (onII fun i j => .int (i + j)) (mC (.int 1))))
noncomputable def m_counted_from : SS :=
      (sSeq (sSet 2 (mNew (mCons (mVar 1) mNil)))
      (sSeq (sSet 3 (mDisp1 (mVar 1) (mC (.int 0))))
      (sSeq (sSet 4 (mC (.int 0)))
      (sSeq (sWhile c_counted_from_0 b_counted_from_1)
      (sRet (mTup (mCons (mOp fIx (mVar 0) (mC (.int 0))) (mCons (mFn fTuple (mCons (mFrz (mComp (mItems (mOp fIx (mVar 0) (mC (.int 1)))) (gN 5) mYes e_counted_from_1 [5])) mNil)) mNil))))))))
theorem w_counted_from {k : Nat} (T : Txt K mg A fd) : FnD P w K mg base (k + 1) (A 31) (fd 31) ["S", "x"] (runF N_counted_from (m_counted_from)) := by
  refine fn_def T.F_counted_from sc_counted_from fun cdv A_ outer s H E X hX hr tk hp => ?_
  subst hX
  exact (es_cons (es_set 2 sc_counted_from.nd (ev_new (ef_lst (ea_cons (ev_var 1) ea_nil) (lenA_cons lenA_nil))))
      (es_cons (es_set 3 sc_counted_from.nd (ev_disp1 (ev_var 1) ev_int))
      (es_cons (es_set 4 sc_counted_from.nd ev_int)
      (es_cons (es_while hp (et_cmp opS_lt (ev_var 4) (ev_bf cs_len T.z_len PySem.boot_len (ea_cons (ev_var 2) ea_nil)) (nomark _)) (es_cons (es_for hp rfl (ei_seq (ev_ix (ev_var 0) ev_int)) (eg_name (vs := [5]) 5 sc_counted_from.nd) (es_cons (es_set 6 sc_counted_from.nd (ev_ix (ev_var 5) (ev_ix (ev_var 2) (ev_var 4))))
      (es_one (es_if (et_dnotin (hu_of hr) (ev_var 6) (ev_var 3)) (es_cons (es_dput (hu_of hr) (ev_var 3) (ev_var 6) (ev_bf cs_len T.z_len PySem.boot_len (ea_cons (ev_var 2) ea_nil)))
      (es_one (es_expr (ev_bm PySem.F.slot_list_append rfl ms_append (ev_var 2) (ea_cons (ev_var 6) ea_nil))))) es_nil))))
      (es_one (es_aug 4 sc_counted_from.nd ios_add ev_int))))
      (es_one (es_ret (ev_tup (ea_cons (ev_ix (ev_var 0) ev_int) (ea_cons (ev_bt cs_tuple T.z_tuple PyProof.Rows.boot_tuple (ea_cons (ev_frz (ef_comp (own := [("p", 5)]) rfl sc_counted_from.nd (ei_seq (ev_ix (ev_var 0) ev_int)) (blkOk_by (N := N_counted_from) (sc := defScope s_counted_from) (own := [("p", 5)]) (by decide +kernel)) (fun s_ H_ C_ cl_ fp_ => (eg_name (vs := _) 5 sc_counted_from.nd)) (fun s_ H_ C_ cl_ fp_ => eif_nil) (fun s_ H_ C_ cl_ fp_ => (ev_bt cs_tuple T.z_tuple PyProof.Rows.boot_tuple (ea_cons (ev_frz (ef_compL (own := [("y", 6)]) rfl sc_counted_from.nd (eil_seq (ev_var 2)) (blkOk_by (by kernel_rfl)) (fun s_ H_ C_ cl_ fp_ => (eg_name (vs := _) 6 sc_counted_from.nd)) (fun s_ H_ C_ cl_ fp_ => eif_nil) (fun s_ H_ C_ cl_ fp_ => (ev_dget (hu_of hr) (ev_var 3) (ev_ix (ev_var 5) (ev_var 6)))))) ea_nil))))) ea_nil)) ea_nil)) (lenA_cons (lenA_cons lenA_nil)))))))))
noncomputable def m_numbered_from (f_check_connected : FS) (f_check_sheet : FS) (f_counted_from : FS) : SS :=
      (sSeq (sExpr (mCall f_check_connected (mCons (mVar 0) mNil)))
      (sSeq (sExpr (mCall f_check_sheet (mCons (mVar 1) (mCons (mVar 0) mNil))))
      (sRet (mCall f_counted_from (mCons (mVar 0) (mCons (mVar 1) mNil))))))
theorem w_numbered_from {k : Nat} (T : Txt K mg A fd) {f_check_connected : FS} (D_check_connected : FnD P w K mg base k (A 23) (fd 23) ["S"] f_check_connected) {f_check_sheet : FS} (D_check_sheet : FnD P w K mg base k (A 20) (fd 20) ["x", "S"] f_check_sheet) {f_counted_from : FS} (D_counted_from : FnD P w K mg base k (A 31) (fd 31) ["S", "x"] f_counted_from) : FnD P w K mg base (k + 1) (A 32) (fd 32) ["S", "x"] (runF N_numbered_from (m_numbered_from f_check_connected f_check_sheet f_counted_from)) := by
  refine fn_def T.F_numbered_from sc_numbered_from fun cdv A_ outer s H E X hX hr tk hp => ?_
  subst hX
  exact (es_cons (es_expr (ev_call D_check_connected hr tk T.m_check_connected T.F_check_connected.kp (b_check_connected T) (ea_cons (ev_var 0) ea_nil) (lenA_cons lenA_nil)))
      (es_cons (es_expr (ev_call D_check_sheet hr tk T.m_check_sheet T.F_check_sheet.kp (b_check_sheet T) (ea_cons (ev_var 1) (ea_cons (ev_var 0) ea_nil)) (lenA_cons (lenA_cons lenA_nil))))
      (es_one (es_ret (ev_call D_counted_from hr tk T.m_counted_from T.F_counted_from.kp (b_counted_from T) (ea_cons (ev_var 0) (ea_cons (ev_var 1) ea_nil)) (lenA_cons (lenA_cons lenA_nil)))))))
noncomputable def e_words_from_0 : SE :=
      (mOp fDGet (mVar 5) (mVar 9))
noncomputable def b_words_from_0 : SS :=
      (sSeq (sSet 9 (mOp fIx (mOp fDGet (mVar 2) (mVar 8)) (mOp fIx (mVar 6) (mVar 7))))
      (sIf (mB (mOp (fDIn false) (mVar 9) (mVar 5))) (sSeq (sSub fSetD (mVar 5) (mVar 9) (mOp fAdd (mOp fDGet (mVar 5) (mOp fIx (mVar 6) (mVar 7))) (mTup (mCons (mVar 8) mNil))))
      (sExpr (mMeth fApp (mVar 6) (mCons (mVar 9) mNil)))) sSkip))
noncomputable def c_words_from_0 : SB :=
      (mB (mOp fLt (mVar 7) (mFn fLen (mCons (mVar 6) mNil))))
noncomputable def b_words_from_1 : SS :=
      (sSeq (sForL (mItL (mVar 3)) (gN 8) b_words_from_0)
      (sAug 7 (onII fun i j => .int (i + j)) (mC (.int 1))))
noncomputable def b_words_from_2 : SS :=
      (sExpr (mExtF (mVar 3) (mCons (mOp fAdd (mVar 4) (mC (.int 1))) (mCons (mOp fSub (mNeg (mVar 4)) (mC (.int 1))) mNil))))
noncomputable def m_words_from (f_letter_tables : FS) : SS :=
      (sSeq (sSet 2 (mCall f_letter_tables (mCons (mVar 0) mNil)))
      (sSeq (sSet 3 (mNew mNil))
      (sSeq (sFor (mRng1 (mFn fLen (mCons (mOp fIx (mVar 0) (mC (.int 1))) mNil))) (gN 4) b_words_from_2)
      (sSeq (sSet 5 (mDisp1 (mVar 1) (mTup mNil)))
      (sSeq (sSet 6 (mNew (mCons (mVar 1) mNil)))
      (sSeq (sSet 7 (mC (.int 0)))
      (sSeq (sWhile c_words_from_0 b_words_from_1)
      (sRet (mFn fTuple (mCons (mFrz (mComp (mRng1 (mOp fIx (mVar 0) (mC (.int 0)))) (gN 9) mYes e_words_from_0 [9])) mNil))))))))))
theorem w_words_from {k : Nat} (T : Txt K mg A fd) {f_letter_tables : FS} (D_letter_tables : FnD P w K mg base k (A 26) (fd 26) ["S"] f_letter_tables) : FnD P w K mg base (k + 1) (A 34) (fd 34) ["S", "x"] (runF N_words_from (m_words_from f_letter_tables)) := by
  refine fn_def T.F_words_from sc_words_from fun cdv A_ outer s H E X hX hr tk hp => ?_
  subst hX
  exact (es_cons (es_set 2 sc_words_from.nd (ev_call D_letter_tables hr tk T.m_letter_tables T.F_letter_tables.kp (b_letter_tables T) (ea_cons (ev_var 0) ea_nil) (lenA_cons lenA_nil)))
      (es_cons (es_set 3 sc_words_from.nd (ev_new (ef_lst ea_nil lenA_nil)))
      (es_cons (es_for hp rfl (ei_range1 T.z_range (ev_bf cs_len T.z_len PySem.boot_len (ea_cons (ev_ix (ev_var 0) ev_int) ea_nil))) (eg_name (vs := [4]) 4 sc_words_from.nd) (es_one (es_expr (ev_extF (ev_var 3) (ef_lst (ea_cons (ev_op opS_add (ev_var 4) ev_int) (ea_cons (ev_op opS_sub (ev_neg (ev_var 4)) ev_int) ea_nil)) (lenA_cons (lenA_cons lenA_nil)))))))
      (es_cons (es_set 5 sc_words_from.nd (ev_disp1 (ev_var 1) (ev_tup ea_nil lenA_nil)))
      (es_cons (es_set 6 sc_words_from.nd (ev_new (ef_lst (ea_cons (ev_var 1) ea_nil) (lenA_cons lenA_nil))))
      (es_cons (es_set 7 sc_words_from.nd ev_int)
      (es_cons (es_while hp (et_cmp opS_lt (ev_var 7) (ev_bf cs_len T.z_len PySem.boot_len (ea_cons (ev_var 6) ea_nil)) (nomark _)) (es_cons (es_forL hp rfl (eil_seq (ev_var 3)) (eg_name (vs := [8]) 8 sc_words_from.nd) (es_cons (es_set 9 sc_words_from.nd (ev_ix (ev_dget (hu_of hr) (ev_var 2) (ev_var 8)) (ev_ix (ev_var 6) (ev_var 7))))
      (es_one (es_if (et_dnotin (hu_of hr) (ev_var 9) (ev_var 5)) (es_cons (es_dput (hu_of hr) (ev_var 5) (ev_var 9) (ev_op opS_add (ev_dget (hu_of hr) (ev_var 5) (ev_ix (ev_var 6) (ev_var 7))) (ev_tup (ea_cons (ev_var 8) ea_nil) (lenA_cons lenA_nil))))
      (es_one (es_expr (ev_bm PySem.F.slot_list_append rfl ms_append (ev_var 6) (ea_cons (ev_var 9) ea_nil))))) es_nil))))
      (es_one (es_aug 7 sc_words_from.nd ios_add ev_int))))
      (es_one (es_ret (ev_bt cs_tuple T.z_tuple PyProof.Rows.boot_tuple (ea_cons (ev_frz (ef_comp (own := [("y", 9)]) rfl sc_words_from.nd (ei_range1 T.z_range (ev_ix (ev_var 0) ev_int)) (blkOk_by (N := N_words_from) (sc := defScope s_words_from) (own := [("y", 9)]) (by decide +kernel)) (fun s_ H_ C_ cl_ fp_ => (eg_name (vs := _) 9 sc_words_from.nd)) (fun s_ H_ C_ cl_ fp_ => eif_nil) (fun s_ H_ C_ cl_ fp_ => (ev_dget (hu_of hr) (ev_var 5) (ev_var 9))))) ea_nil)))))))))))
noncomputable def m_leading_words (f_check_connected : FS) (f_check_sheet : FS) (f_words_from : FS) : SS :=
      (sSeq (sExpr (mCall f_check_connected (mCons (mVar 0) mNil)))
      (sSeq (sExpr (mCall f_check_sheet (mCons (mVar 1) (mCons (mVar 0) mNil))))
      (sRet (mCall f_words_from (mCons (mVar 0) (mCons (mVar 1) mNil))))))
theorem w_leading_words {k : Nat} (T : Txt K mg A fd) {f_check_connected : FS} (D_check_connected : FnD P w K mg base k (A 23) (fd 23) ["S"] f_check_connected) {f_check_sheet : FS} (D_check_sheet : FnD P w K mg base k (A 20) (fd 20) ["x", "S"] f_check_sheet) {f_words_from : FS} (D_words_from : FnD P w K mg base k (A 34) (fd 34) ["S", "x"] f_words_from) : FnD P w K mg base (k + 1) (A 35) (fd 35) ["S", "x"] (runF N_leading_words (m_leading_words f_check_connected f_check_sheet f_words_from)) := by
  refine fn_def T.F_leading_words sc_leading_words fun cdv A_ outer s H E X hX hr tk hp => ?_
  subst hX
  exact (es_cons (es_expr (ev_call D_check_connected hr tk T.m_check_connected T.F_check_connected.kp (b_check_connected T) (ea_cons (ev_var 0) ea_nil) (lenA_cons lenA_nil)))
      (es_cons (es_expr (ev_call D_check_sheet hr tk T.m_check_sheet T.F_check_sheet.kp (b_check_sheet T) (ea_cons (ev_var 1) (ea_cons (ev_var 0) ea_nil)) (lenA_cons (lenA_cons lenA_nil))))
      (es_one (es_ret (ev_call D_words_from hr tk T.m_words_from T.F_words_from.kp (b_words_from T) (ea_cons (ev_var 0) (ea_cons (ev_var 1) ea_nil)) (lenA_cons (lenA_cons lenA_nil)))))))
noncomputable def e_least_system_0 (f_counted_from : FS) : SE :=
      (mCall f_counted_from (mCons (mVar 0) (mCons (mVar 1) mNil)))
noncomputable def m_least_system (f_check_connected : FS) (f_counted_from : FS) : SS :=
      (sSeq (sExpr (mCall f_check_connected (mCons (mVar 0) mNil)))
      (sRet (mFn fMinA (mCons (mFrz (mComp (mRng1 (mOp fIx (mVar 0) (mC (.int 0)))) (gN 1) mYes (e_least_system_0 f_counted_from) [1])) mNil))))
theorem w_least_system {k : Nat} (T : Txt K mg A fd) {f_check_connected : FS} (D_check_connected : FnD P w K mg base k (A 23) (fd 23) ["S"] f_check_connected) {f_counted_from : FS} (D_counted_from : FnD P w K mg base k (A 31) (fd 31) ["S", "x"] f_counted_from) : FnD P w K mg base (k + 1) (A 33) (fd 33) ["S"] (runF N_least_system (m_least_system f_check_connected f_counted_from)) := by
  refine fn_def T.F_least_system sc_least_system fun cdv A_ outer s H E X hX hr tk hp => ?_
  subst hX
  exact (es_cons (es_expr (ev_call D_check_connected hr tk T.m_check_connected T.F_check_connected.kp (b_check_connected T) (ea_cons (ev_var 0) ea_nil) (lenA_cons lenA_nil)))
      (es_one (es_ret (ev_bf (cs_minA rfl (hu5_of hr)) T.z_min PyProof.Rows.boot_min (ea_cons (ev_frz (ef_comp (own := [("x", 1)]) rfl sc_least_system.nd (ei_range1 T.z_range (ev_ix (ev_var 0) ev_int)) (blkOk_by (N := N_least_system) (sc := defScope s_least_system) (own := [("x", 1)]) (by decide +kernel)) (fun s_ H_ C_ cl_ fp_ => (eg_name (vs := _) 1 sc_least_system.nd)) (fun s_ H_ C_ cl_ fp_ => eif_nil) (fun s_ H_ C_ cl_ fp_ => (ev_call D_counted_from hr takes_none5 T.m_counted_from T.F_counted_from.kp (b_counted_from T) (ea_cons (ev_var 0) (ea_cons (ev_var 1) ea_nil)) (lenA_cons (lenA_cons lenA_nil)))))) ea_nil)))))
noncomputable def b_law_walk_0 (f_law_step : FS) : SS :=
      (sSet 1 (mCall f_law_step (mCons (mVar 0) (mCons (mVar 1) (mCons (mVar 3) mNil)))))
noncomputable def m_law_walk (f_law_step : FS) : SS :=
      (sSeq (sFor (mItems (mVar 2)) (gN 3) (b_law_walk_0 f_law_step))
      (sRet (mVar 1)))
theorem w_law_walk {k : Nat} (T : Txt K mg A fd) {f_law_step : FS} (D_law_step : FnD P w K mg base k (A 53) (fd 53) ["S", "x", "i"] f_law_step) : FnD P w K mg base (k + 1) (A 58) (fd 58) ["S", "x", "w"] (runF N_law_walk (m_law_walk f_law_step)) := by
  refine fn_def T.F_law_walk sc_law_walk fun cdv A_ outer s H E X hX hr tk hp => ?_
  subst hX
  exact (es_cons (es_for hp rfl (ei_seq (ev_var 2)) (eg_name (vs := [3]) 3 sc_law_walk.nd) (es_one (es_set 1 sc_law_walk.nd (ev_call D_law_step hr tk T.m_law_step T.F_law_step.kp (b_law_step T) (ea_cons (ev_var 0) (ea_cons (ev_var 1) (ea_cons (ev_var 3) ea_nil))) (lenA_cons (lenA_cons (lenA_cons lenA_nil)))))))
      (es_one (es_ret (ev_var 1))))
noncomputable def e_law_0 (f_law_walk : FS) : SE :=
      (mCall f_law_walk (mCons (mVar 4) (mCons (mVar 5) (mCons (mVar 13) mNil))))
noncomputable def b_law_0 (f_law_walk : FS) : SS :=
      (sExpr (mMeth fApp (mVar 12) (mCons (mFn fTuple (mCons (mFrz (mComp (mRng1 (mVar 2)) (gN 5) mYes (e_law_0 f_law_walk) [5])) mNil)) mNil)))
noncomputable def e_law_1 (f_law_word : FS) : SE :=
      (mCall f_law_word (mCons (mVar 1) (mCons (mVar 3) (mCons (mC (.int 12)) mNil))))
noncomputable def b_law_1 (f_law_product : FS) : SS :=
      (sSet 9 (mCall f_law_product (mCons (mVar 9) (mCons (mVar 7) mNil))))
noncomputable def b_law_2 (f_law_product : FS) : SS :=
      (sSet 7 (mCall f_law_product (mCons (mVar 7) (mCons (mOp fIx (mOp fIx (mVar 4) (mC (.int 1))) (mOp fSub (mVar 8) (mC (.int 1)))) mNil))))
noncomputable def e_law_2 (f_law_take : FS) : SE :=
      (mOp fAdd (mC (.int 1)) (mCall f_law_take (mCons (mVar 1) (mCons (mVar 3) mNil))))
noncomputable def e_law_3 (f_law_type : FS) : SE :=
      (mCall f_law_type (mCons (mVar 14) mNil))
noncomputable def m_law (f_law_state : FS) (f_law_system : FS) (f_law_is_connected : FS) (f_law_plain : FS) (f_law_take : FS) (f_law_product : FS) (f_is_system : FS) (f_law_parts : FS) (f_datum_of : FS) (f_word_permutation : FS) (f_law_word : FS) (f_told_system : FS) (f_system_parts : FS) (f_law_type : FS) (f_law_numbered : FS) (f_law_leading : FS) (f_law_least : FS) (f_numbered_from : FS) (f_leading_words : FS) (f_least_system : FS) (f_law_walk : FS) : SS :=
      (sSeq (sSet 1 (mCall f_law_state (mCons (mVar 0) mNil)))
      (sSeq (sAsg (gT (gsCons (gN 2) (gsCons (gN 3) gsNil))) (mTup (mCons (mOp fAdd (mC (.int 20)) (mCall f_law_take (mCons (mVar 1) (mCons (mC (.int 5)) mNil)))) (mCons (mOp fAdd (mC (.int 8)) (mCall f_law_take (mCons (mVar 1) (mCons (mC (.int 5)) mNil)))) mNil))))
      (sSeq (sSet 4 (mCall f_law_system (mCons (mVar 1) (mCons (mVar 2) (mCons (mVar 3) mNil)))))
      (sSeq (sIf (mOr (mB (mOp fIsNot (mCall f_is_system (mCons (mVar 4) mNil)) (mC (.bl true)))) (mB (mOp fNe (mCall f_law_plain (mCons (mCall f_system_parts (mCons (mVar 4) mNil)) mNil)) (mCall f_law_parts (mCons (mVar 4) mNil))))) (sRet (mC (.bl false))) sSkip)
      (sSeq (sIf (mB (mOp fNe (mCall f_law_plain (mCons (mCall f_datum_of (mCons (mVar 4) mNil)) mNil)) (mFn fTuple (mCons (mFrz (mComp (mItems (mOp fIx (mVar 4) (mC (.int 1)))) (gN 14) mYes (e_law_3 f_law_type) [14])) mNil)))) (sRet (mC (.bl false))) sSkip)
      (sSeq (sIf (mB (mCall f_law_is_connected (mCons (mVar 4) mNil))) (sSeq (sSet 5 (mCall f_law_take (mCons (mVar 1) (mCons (mVar 2) mNil))))
      (sSeq (sIf (mOr (mB (mOp fNe (mCall f_law_plain (mCons (mCall f_numbered_from (mCons (mVar 4) (mCons (mVar 5) mNil))) mNil)) (mCall f_law_numbered (mCons (mVar 4) (mCons (mVar 5) mNil))))) (mB (mOp fNe (mCall f_law_plain (mCons (mCall f_leading_words (mCons (mVar 4) (mCons (mVar 5) mNil))) mNil)) (mCall f_law_leading (mCons (mVar 4) (mCons (mVar 5) mNil)))))) (sRet (mC (.bl false))) sSkip)
      (sIf (mAnd (mB (mOp fEq (mCall f_law_take (mCons (mVar 1) (mCons (mC (.int 4)) mNil))) (mC (.int 0)))) (mB (mOp fNe (mCall f_law_plain (mCons (mCall f_least_system (mCons (mVar 4) mNil)) mNil)) (mCall f_law_least (mCons (mVar 4) mNil))))) (sRet (mC (.bl false))) sSkip))) sSkip)
      (sSeq (sSet 6 (mOp fMulG (mFn fTuple (mCons (mFrz (mComp (mRng1 (mC (.int 25))) (gN 10) mYes (e_law_2 f_law_take) [10])) mNil)) (mC (.int 80))))
      (sSeq (sSet 7 (mTupOf (mRgL1 (mVar 2))))
      (sSeq (sFor (mItems (mSl fSl (mVar 6) mNoPart (mPart (mC (.int 25))))) (gN 8) (b_law_2 f_law_product))
      (sSeq (sSet 9 (mTupOf (mRgL1 (mVar 2))))
      (sSeq (sFor (mRng1 (mC (.int 80))) (gN 10) (b_law_1 f_law_product))
      (sSeq (sIf (mB (mOp fNe (mCall f_law_plain (mCons (mCall f_word_permutation (mCons (mVar 4) (mCons (mVar 6) mNil))) mNil)) (mVar 9))) (sRet (mC (.bl false))) sSkip)
      (sSeq (sSet 11 (mFn fTuple (mCons (mFrz (mComp (mRng1 (mC (.int 12))) (gN 10) mYes (e_law_1 f_law_word) [10])) mNil)))
      (sSeq (sSet 12 (mNew mNil))
      (sSeq (sFor (mItems (mVar 11)) (gN 13) (b_law_0 f_law_walk))
      (sRet (mOp fEq (mCall f_law_plain (mCons (mCall f_told_system (mCons (mVar 4) (mCons (mVar 11) mNil))) mNil)) (mTup (mCons (mVar 2) (mCons (mFn fTuple (mCons (mVar 12) mNil)) mNil))))))))))))))))))))
theorem w_law {k : Nat} (T : Txt K mg A fd) {f_law_state : FS} (D_law_state : FnD P w K mg base k (A 40) (fd 40) ["script"] f_law_state) {f_law_system : FS} (D_law_system : FnD P w K mg base k (A 44) (fd 44) ["state", "d", "k"] f_law_system) {f_law_is_connected : FS} (D_law_is_connected : FnD P w K mg base k (A 48) (fd 48) ["S"] f_law_is_connected) {f_law_plain : FS} (D_law_plain : FnD P w K mg base k (A 39) (fd 39) ["value"] f_law_plain) {f_law_take : FS} (D_law_take : FnD P w K mg base k (A 41) (fd 41) ["state", "m"] f_law_take) {f_law_product : FS} (D_law_product : FnD P w K mg base k (A 56) (fd 56) ["p", "q"] f_law_product) {f_is_system : FS} (D_is_system : FnD P w K mg base k (A 17) (fd 17) ["value"] f_is_system) {f_law_parts : FS} (D_law_parts : FnD P w K mg base k (A 45) (fd 45) ["S"] f_law_parts) {f_datum_of : FS} (D_datum_of : FnD P w K mg base k (A 30) (fd 30) ["S"] f_datum_of) {f_word_permutation : FS} (D_word_permutation : FnD P w K mg base k (A 28) (fd 28) ["S", "w"] f_word_permutation) {f_law_word : FS} (D_law_word : FnD P w K mg base k (A 57) (fd 57) ["state", "k", "most"] f_law_word) {f_told_system : FS} (D_told_system : FnD P w K mg base k (A 36) (fd 36) ["S", "words"] f_told_system) {f_system_parts : FS} (D_system_parts : FnD P w K mg base k (A 29) (fd 29) ["S"] f_system_parts) {f_law_type : FS} (D_law_type : FnD P w K mg base k (A 47) (fd 47) ["p"] f_law_type) {f_law_numbered : FS} (D_law_numbered : FnD P w K mg base k (A 51) (fd 51) ["S", "x"] f_law_numbered) {f_law_leading : FS} (D_law_leading : FnD P w K mg base k (A 54) (fd 54) ["S", "x"] f_law_leading) {f_law_least : FS} (D_law_least : FnD P w K mg base k (A 55) (fd 55) ["S"] f_law_least) {f_numbered_from : FS} (D_numbered_from : FnD P w K mg base k (A 32) (fd 32) ["S", "x"] f_numbered_from) {f_leading_words : FS} (D_leading_words : FnD P w K mg base k (A 35) (fd 35) ["S", "x"] f_leading_words) {f_least_system : FS} (D_least_system : FnD P w K mg base k (A 33) (fd 33) ["S"] f_least_system) {f_law_walk : FS} (D_law_walk : FnD P w K mg base k (A 58) (fd 58) ["S", "x", "w"] f_law_walk) : FnD P w K mg base (k + 1) (A 59) (fd 59) ["script"] (runF N_law (m_law f_law_state f_law_system f_law_is_connected f_law_plain f_law_take f_law_product f_is_system f_law_parts f_datum_of f_word_permutation f_law_word f_told_system f_system_parts f_law_type f_law_numbered f_law_leading f_law_least f_numbered_from f_leading_words f_least_system f_law_walk)) := by
  refine fn_def T.F_law sc_law fun cdv A_ outer s H E X hX hr tk hp => ?_
  subst hX
  exact (es_cons (es_set 1 sc_law.nd (ev_call D_law_state hr tk T.m_law_state T.F_law_state.kp (b_law_state T) (ea_cons (ev_var 0) ea_nil) (lenA_cons lenA_nil)))
      (es_cons (es_asg (ev_tup (ea_cons (ev_op opS_add ev_int (ev_call D_law_take hr tk T.m_law_take T.F_law_take.kp (b_law_take T) (ea_cons (ev_var 1) (ea_cons ev_int ea_nil)) (lenA_cons (lenA_cons lenA_nil)))) (ea_cons (ev_op opS_add ev_int (ev_call D_law_take hr tk T.m_law_take T.F_law_take.kp (b_law_take T) (ea_cons (ev_var 1) (ea_cons ev_int ea_nil)) (lenA_cons (lenA_cons lenA_nil)))) ea_nil)) (lenA_cons (lenA_cons lenA_nil))) (eg_tup rfl (egs_cons (eg_name (vs := [2, 3]) 2 sc_law.nd) (egs_cons (eg_name (vs := [2, 3]) 3 sc_law.nd) egs_nil)) (lenG_cons (lenG_cons lenG_nil))))
      (es_cons (es_set 4 sc_law.nd (ev_call D_law_system hr tk T.m_law_system T.F_law_system.kp (b_law_system T) (ea_cons (ev_var 1) (ea_cons (ev_var 2) (ea_cons (ev_var 3) ea_nil))) (lenA_cons (lenA_cons (lenA_cons lenA_nil)))))
      (es_cons (es_if (et_of (ew_or (et_cmp opS_isNot (ev_call D_is_system hr tk T.m_is_system T.F_is_system.kp (b_is_system T) (ea_cons (ev_var 4) ea_nil) (lenA_cons lenA_nil)) ev_bl (nomark _)) (ew_or1 (et_cmp (opS_ne hr.units) (ev_call D_law_plain hr tk T.m_law_plain T.F_law_plain.kp (b_law_plain T) (ea_cons (ev_call D_system_parts hr tk T.m_system_parts T.F_system_parts.kp (b_system_parts T) (ea_cons (ev_var 4) ea_nil) (lenA_cons lenA_nil)) ea_nil) (lenA_cons lenA_nil)) (ev_call D_law_parts hr tk T.m_law_parts T.F_law_parts.kp (b_law_parts T) (ea_cons (ev_var 4) ea_nil) (lenA_cons lenA_nil)) (nomark _))))) (es_one (es_ret ev_bl)) es_nil)
      (es_cons (es_if (et_cmp (opS_ne hr.units) (ev_call D_law_plain hr tk T.m_law_plain T.F_law_plain.kp (b_law_plain T) (ea_cons (ev_call D_datum_of hr tk T.m_datum_of T.F_datum_of.kp (b_datum_of T) (ea_cons (ev_var 4) ea_nil) (lenA_cons lenA_nil)) ea_nil) (lenA_cons lenA_nil)) (ev_bt cs_tuple T.z_tuple PyProof.Rows.boot_tuple (ea_cons (ev_frz (ef_comp (own := [("p", 14)]) rfl sc_law.nd (ei_seq (ev_ix (ev_var 4) ev_int)) (blkOk_by (N := N_law) (sc := defScope s_law) (own := [("p", 14)]) (by decide +kernel)) (fun s_ H_ C_ cl_ fp_ => (eg_name (vs := _) 14 sc_law.nd)) (fun s_ H_ C_ cl_ fp_ => eif_nil) (fun s_ H_ C_ cl_ fp_ => (ev_call D_law_type hr takes_none5 T.m_law_type T.F_law_type.kp (b_law_type T) (ea_cons (ev_var 14) ea_nil) (lenA_cons lenA_nil))))) ea_nil)) (nomark _)) (es_one (es_ret ev_bl)) es_nil)
      (es_cons (es_if (et_val (ev_call D_law_is_connected hr tk T.m_law_is_connected T.F_law_is_connected.kp (b_law_is_connected T) (ea_cons (ev_var 4) ea_nil) (lenA_cons lenA_nil))) (es_cons (es_set 5 sc_law.nd (ev_call D_law_take hr tk T.m_law_take T.F_law_take.kp (b_law_take T) (ea_cons (ev_var 1) (ea_cons (ev_var 2) ea_nil)) (lenA_cons (lenA_cons lenA_nil))))
      (es_cons (es_if (et_of (ew_or (et_cmp (opS_ne hr.units) (ev_call D_law_plain hr tk T.m_law_plain T.F_law_plain.kp (b_law_plain T) (ea_cons (ev_call D_numbered_from hr tk T.m_numbered_from T.F_numbered_from.kp (b_numbered_from T) (ea_cons (ev_var 4) (ea_cons (ev_var 5) ea_nil)) (lenA_cons (lenA_cons lenA_nil))) ea_nil) (lenA_cons lenA_nil)) (ev_call D_law_numbered hr tk T.m_law_numbered T.F_law_numbered.kp (b_law_numbered T) (ea_cons (ev_var 4) (ea_cons (ev_var 5) ea_nil)) (lenA_cons (lenA_cons lenA_nil))) (nomark _)) (ew_or1 (et_cmp (opS_ne hr.units) (ev_call D_law_plain hr tk T.m_law_plain T.F_law_plain.kp (b_law_plain T) (ea_cons (ev_call D_leading_words hr tk T.m_leading_words T.F_leading_words.kp (b_leading_words T) (ea_cons (ev_var 4) (ea_cons (ev_var 5) ea_nil)) (lenA_cons (lenA_cons lenA_nil))) ea_nil) (lenA_cons lenA_nil)) (ev_call D_law_leading hr tk T.m_law_leading T.F_law_leading.kp (b_law_leading T) (ea_cons (ev_var 4) (ea_cons (ev_var 5) ea_nil)) (lenA_cons (lenA_cons lenA_nil))) (nomark _))))) (es_one (es_ret ev_bl)) es_nil)
      (es_one (es_if (et_of (ew_and (et_cmp (opS_eq hr.units) (ev_call D_law_take hr tk T.m_law_take T.F_law_take.kp (b_law_take T) (ea_cons (ev_var 1) (ea_cons ev_int ea_nil)) (lenA_cons (lenA_cons lenA_nil))) ev_int (nomark _)) (ew_and1 (et_cmp (opS_ne hr.units) (ev_call D_law_plain hr tk T.m_law_plain T.F_law_plain.kp (b_law_plain T) (ea_cons (ev_call D_least_system hr tk T.m_least_system T.F_least_system.kp (b_least_system T) (ea_cons (ev_var 4) ea_nil) (lenA_cons lenA_nil)) ea_nil) (lenA_cons lenA_nil)) (ev_call D_law_least hr tk T.m_law_least T.F_law_least.kp (b_law_least T) (ea_cons (ev_var 4) ea_nil) (lenA_cons lenA_nil)) (nomark _))))) (es_one (es_ret ev_bl)) es_nil)))) es_nil)
      (es_cons (es_set 6 sc_law.nd (ev_op opS_mulG (ev_bt cs_tuple T.z_tuple PyProof.Rows.boot_tuple (ea_cons (ev_frz (ef_comp (own := [("turn", 10)]) rfl sc_law.nd (ei_range1 T.z_range ev_int) (blkOk_by (N := N_law) (sc := defScope s_law) (own := [("turn", 10)]) (by decide +kernel)) (fun s_ H_ C_ cl_ fp_ => (eg_name (vs := _) 10 sc_law.nd)) (fun s_ H_ C_ cl_ fp_ => eif_nil) (fun s_ H_ C_ cl_ fp_ => (ev_op opS_add ev_int (ev_call D_law_take hr takes_none5 T.m_law_take T.F_law_take.kp (b_law_take T) (ea_cons (ev_var 1) (ea_cons (ev_var 3) ea_nil)) (lenA_cons (lenA_cons lenA_nil))))))) ea_nil)) ev_int))
      (es_cons (es_set 7 sc_law.nd (ev_tupRg1 T.z_tuple (ev_var 2) rfl T.z_range))
      (es_cons (es_for hp rfl (ei_seq (ev_sl (ev_var 6) eo_none (eo_some ev_int))) (eg_name (vs := [8]) 8 sc_law.nd) (es_one (es_set 7 sc_law.nd (ev_call D_law_product hr tk T.m_law_product T.F_law_product.kp (b_law_product T) (ea_cons (ev_var 7) (ea_cons (ev_ix (ev_ix (ev_var 4) ev_int) (ev_op opS_sub (ev_var 8) ev_int)) ea_nil)) (lenA_cons (lenA_cons lenA_nil))))))
      (es_cons (es_set 9 sc_law.nd (ev_tupRg1 T.z_tuple (ev_var 2) rfl T.z_range))
      (es_cons (es_for hp rfl (ei_range1 T.z_range ev_int) (eg_name (vs := [10]) 10 sc_law.nd) (es_one (es_set 9 sc_law.nd (ev_call D_law_product hr tk T.m_law_product T.F_law_product.kp (b_law_product T) (ea_cons (ev_var 9) (ea_cons (ev_var 7) ea_nil)) (lenA_cons (lenA_cons lenA_nil))))))
      (es_cons (es_if (et_cmp (opS_ne hr.units) (ev_call D_law_plain hr tk T.m_law_plain T.F_law_plain.kp (b_law_plain T) (ea_cons (ev_call D_word_permutation hr tk T.m_word_permutation T.F_word_permutation.kp (b_word_permutation T) (ea_cons (ev_var 4) (ea_cons (ev_var 6) ea_nil)) (lenA_cons (lenA_cons lenA_nil))) ea_nil) (lenA_cons lenA_nil)) (ev_var 9) (nomark _)) (es_one (es_ret ev_bl)) es_nil)
      (es_cons (es_set 11 sc_law.nd (ev_bt cs_tuple T.z_tuple PyProof.Rows.boot_tuple (ea_cons (ev_frz (ef_comp (own := [("turn", 10)]) rfl sc_law.nd (ei_range1 T.z_range ev_int) (blkOk_by (N := N_law) (sc := defScope s_law) (own := [("turn", 10)]) (by decide +kernel)) (fun s_ H_ C_ cl_ fp_ => (eg_name (vs := _) 10 sc_law.nd)) (fun s_ H_ C_ cl_ fp_ => eif_nil) (fun s_ H_ C_ cl_ fp_ => (ev_call D_law_word hr takes_none5 T.m_law_word T.F_law_word.kp (b_law_word T) (ea_cons (ev_var 1) (ea_cons (ev_var 3) (ea_cons ev_int ea_nil))) (lenA_cons (lenA_cons (lenA_cons lenA_nil))))))) ea_nil)))
      (es_cons (es_set 12 sc_law.nd (ev_new (ef_lst ea_nil lenA_nil)))
      (es_cons (es_for hp rfl (ei_seq (ev_var 11)) (eg_name (vs := [13]) 13 sc_law.nd) (es_one (es_expr (ev_bm PySem.F.slot_list_append rfl ms_append (ev_var 12) (ea_cons (ev_bt cs_tuple T.z_tuple PyProof.Rows.boot_tuple (ea_cons (ev_frz (ef_comp (own := [("x", 5)]) rfl sc_law.nd (ei_range1 T.z_range (ev_var 2)) (blkOk_by (N := N_law) (sc := defScope s_law) (own := [("x", 5)]) (by decide +kernel)) (fun s_ H_ C_ cl_ fp_ => (eg_name (vs := _) 5 sc_law.nd)) (fun s_ H_ C_ cl_ fp_ => eif_nil) (fun s_ H_ C_ cl_ fp_ => (ev_call D_law_walk hr takes_none5 T.m_law_walk T.F_law_walk.kp (b_law_walk T) (ea_cons (ev_var 4) (ea_cons (ev_var 5) (ea_cons (ev_var 13) ea_nil))) (lenA_cons (lenA_cons (lenA_cons lenA_nil))))))) ea_nil)) ea_nil)))))
      (es_one (es_ret (ev_cmp (opS_eq hr.units) (ev_call D_law_plain hr tk T.m_law_plain T.F_law_plain.kp (b_law_plain T) (ea_cons (ev_call D_told_system hr tk T.m_told_system T.F_told_system.kp (b_told_system T) (ea_cons (ev_var 4) (ea_cons (ev_var 11) ea_nil)) (lenA_cons (lenA_cons lenA_nil))) ea_nil) (lenA_cons lenA_nil)) (ev_tup (ea_cons (ev_var 2) (ea_cons (ev_bt cs_tuple T.z_tuple PyProof.Rows.boot_tuple (ea_cons (ev_var 12) ea_nil)) ea_nil)) (lenA_cons (lenA_cons lenA_nil))) (nomark _)))))))))))))))))))
theorem ex_law_state (A : Nat → Addr) : ∃ F : FS, F = runF N_law_state (m_law_state) := ⟨_, rfl⟩
noncomputable def S_law_state (A : Nat → Addr) : FS := (ex_law_state A).choose
theorem S_law_state_eq (A : Nat → Addr) : S_law_state A = runF N_law_state (m_law_state) := (ex_law_state A).choose_spec
noncomputable abbrev B_law_state_0 (A : Nat → Addr) : SS := b_law_state_0
theorem d_law_state (T : Txt K mg A fd) : FnD P w K mg base 1 (A 40) (fd 40) ["script"] (S_law_state A) := by rw [S_law_state_eq]; exact w_law_state (k := 0) T
theorem ex_law_take (A : Nat → Addr) : ∃ F : FS, F = runF N_law_take (m_law_take) := ⟨_, rfl⟩
noncomputable def S_law_take (A : Nat → Addr) : FS := (ex_law_take A).choose
theorem S_law_take_eq (A : Nat → Addr) : S_law_take A = runF N_law_take (m_law_take) := (ex_law_take A).choose_spec
theorem d_law_take (T : Txt K mg A fd) : FnD P w K mg base 1 (A 41) (fd 41) ["state", "m"] (S_law_take A) := by rw [S_law_take_eq]; exact w_law_take (k := 0) T
theorem ex_law_inverse (A : Nat → Addr) : ∃ F : FS, F = gc (runF N_law_inverse (m_law_inverse)) := ⟨_, rfl⟩
noncomputable def S_law_inverse (A : Nat → Addr) : FS := (ex_law_inverse A).choose
theorem S_law_inverse_eq (A : Nat → Addr) : S_law_inverse A = gc (runF N_law_inverse (m_law_inverse)) := (ex_law_inverse A).choose_spec
noncomputable abbrev B_law_inverse_0 (A : Nat → Addr) : SS := b_law_inverse_0
noncomputable abbrev E_law_inverse_0 (A : Nat → Addr) : SE := e_law_inverse_0
theorem d_law_inverse (T : Txt K mg A fd) : FnD P w K mg base 1 (A 42) (fd 42) ["p"] (S_law_inverse A) := by rw [S_law_inverse_eq]; exact fn_gc (w_law_inverse (k := 0) T)
theorem ex_law_permutation (A : Nat → Addr) : ∃ F : FS, F = gc (runF N_law_permutation (m_law_permutation (S_law_take A))) := ⟨_, rfl⟩
noncomputable def S_law_permutation (A : Nat → Addr) : FS := (ex_law_permutation A).choose
theorem S_law_permutation_eq (A : Nat → Addr) : S_law_permutation A = gc (runF N_law_permutation (m_law_permutation (S_law_take A))) := (ex_law_permutation A).choose_spec
noncomputable abbrev C_law_permutation_0 (A : Nat → Addr) : SB := c_law_permutation_0
noncomputable abbrev B_law_permutation_0 (A : Nat → Addr) : SS := b_law_permutation_0 (S_law_take A)
theorem d_law_permutation (T : Txt K mg A fd) : FnD P w K mg base 2 (A 43) (fd 43) ["state", "d"] (S_law_permutation A) := by rw [S_law_permutation_eq]; exact fn_gc (w_law_permutation (k := 1) T ((d_law_take T).mono (by decide)))
theorem ex_law_system (A : Nat → Addr) : ∃ F : FS, F = gc (runF N_law_system (m_law_system (S_law_take A) (S_law_inverse A) (S_law_permutation A))) := ⟨_, rfl⟩
noncomputable def S_law_system (A : Nat → Addr) : FS := (ex_law_system A).choose
theorem S_law_system_eq (A : Nat → Addr) : S_law_system A = gc (runF N_law_system (m_law_system (S_law_take A) (S_law_inverse A) (S_law_permutation A))) := (ex_law_system A).choose_spec
noncomputable abbrev E_law_system_0 (A : Nat → Addr) : SE := e_law_system_0
noncomputable abbrev E_law_system_1 (A : Nat → Addr) : SE := e_law_system_1
noncomputable abbrev B_law_system_0 (A : Nat → Addr) : SS := b_law_system_0 (S_law_take A) (S_law_inverse A) (S_law_permutation A)
theorem d_law_system (T : Txt K mg A fd) : FnD P w K mg base 3 (A 44) (fd 44) ["state", "d", "k"] (S_law_system A) := by rw [S_law_system_eq]; exact fn_gc (w_law_system (k := 2) T ((d_law_take T).mono (by decide)) ((d_law_inverse T).mono (by decide)) ((d_law_permutation T).mono (by decide)))
theorem ex_law_parts (A : Nat → Addr) : ∃ F : FS, F = gc (runF N_law_parts (m_law_parts)) := ⟨_, rfl⟩
noncomputable def S_law_parts (A : Nat → Addr) : FS := (ex_law_parts A).choose
theorem S_law_parts_eq (A : Nat → Addr) : S_law_parts A = gc (runF N_law_parts (m_law_parts)) := (ex_law_parts A).choose_spec
noncomputable abbrev B_law_parts_0 (A : Nat → Addr) : SS := b_law_parts_0
noncomputable abbrev C_law_parts_0 (A : Nat → Addr) : SB := c_law_parts_0
noncomputable abbrev B_law_parts_1 (A : Nat → Addr) : SS := b_law_parts_1
noncomputable abbrev B_law_parts_2 (A : Nat → Addr) : SS := b_law_parts_2
noncomputable abbrev E_law_parts_0 (A : Nat → Addr) : SE := e_law_parts_0
theorem d_law_parts (T : Txt K mg A fd) : FnD P w K mg base 1 (A 45) (fd 45) ["S"] (S_law_parts A) := by rw [S_law_parts_eq]; exact fn_gc (w_law_parts (k := 0) T)
theorem ex_law_is_connected (A : Nat → Addr) : ∃ F : FS, F = gc (runF N_law_is_connected (m_law_is_connected (S_law_parts A))) := ⟨_, rfl⟩
noncomputable def S_law_is_connected (A : Nat → Addr) : FS := (ex_law_is_connected A).choose
theorem S_law_is_connected_eq (A : Nat → Addr) : S_law_is_connected A = gc (runF N_law_is_connected (m_law_is_connected (S_law_parts A))) := (ex_law_is_connected A).choose_spec
theorem d_law_is_connected (T : Txt K mg A fd) : FnD P w K mg base 2 (A 48) (fd 48) ["S"] (S_law_is_connected A) := by rw [S_law_is_connected_eq]; exact fn_gc (w_law_is_connected (k := 1) T ((d_law_parts T).mono (by decide)))
noncomputable def R_law_inner (A : Nat → Addr) : Nat → FS
  | 0 => fun _ _ => .no
  | n + 1 => gc (runF N_law_inner (m_law_inner (R_law_inner A n)))
theorem ex_law_inner (A : Nat → Addr) : ∃ F : Nat → FS, F 0 = (fun _ _ => .no) ∧ ∀ n, F (n + 1) = gc (runF N_law_inner (m_law_inner (F n))) := ⟨R_law_inner A, rfl, fun _ => rfl⟩
noncomputable def S_law_inner (A : Nat → Addr) : Nat → FS := (ex_law_inner A).choose
theorem S_law_inner_eq (A : Nat → Addr) (n : Nat) : S_law_inner A (n + 1) = gc (runF N_law_inner (m_law_inner (S_law_inner A n))) := (ex_law_inner A).choose_spec.2 n
theorem d_law_inner (T : Txt K mg A fd) : ∀ n, FnD P w K mg base (0 + n) (A 38) (fd 38) ["value"] (S_law_inner A n)
  | 0 => by rw [show S_law_inner A 0 = fun _ _ => .no from (ex_law_inner A).choose_spec.1]; exact fn_none.mono (Nat.zero_le _)
  | n + 1 => by rw [S_law_inner_eq]; exact fn_gc (w_law_inner (k := 0 + n) T (d_law_inner T n))
theorem ex_law_plain (A : Nat → Addr) : ∃ F : FS, F = gc (runF N_law_plain (m_law_plain (S_law_inner A 4))) := ⟨_, rfl⟩
noncomputable def S_law_plain (A : Nat → Addr) : FS := (ex_law_plain A).choose
theorem S_law_plain_eq (A : Nat → Addr) : S_law_plain A = gc (runF N_law_plain (m_law_plain (S_law_inner A 4))) := (ex_law_plain A).choose_spec
theorem d_law_plain (T : Txt K mg A fd) : FnD P w K mg base 5 (A 39) (fd 39) ["value"] (S_law_plain A) := by rw [S_law_plain_eq]; exact fn_gc (w_law_plain (k := 4) T ((d_law_inner T 4).mono (by decide)))
theorem ex_law_product (A : Nat → Addr) : ∃ F : FS, F = gc (runF N_law_product (m_law_product)) := ⟨_, rfl⟩
noncomputable def S_law_product (A : Nat → Addr) : FS := (ex_law_product A).choose
theorem S_law_product_eq (A : Nat → Addr) : S_law_product A = gc (runF N_law_product (m_law_product)) := (ex_law_product A).choose_spec
noncomputable abbrev E_law_product_0 (A : Nat → Addr) : SE := e_law_product_0
theorem d_law_product (T : Txt K mg A fd) : FnD P w K mg base 1 (A 56) (fd 56) ["p", "q"] (S_law_product A) := by rw [S_law_product_eq]; exact fn_gc (w_law_product (k := 0) T)
theorem ex_is_integer (A : Nat → Addr) : ∃ F : FS, F = gc (runF N_is_integer (m_is_integer)) := ⟨_, rfl⟩
noncomputable def S_is_integer (A : Nat → Addr) : FS := (ex_is_integer A).choose
theorem S_is_integer_eq (A : Nat → Addr) : S_is_integer A = gc (runF N_is_integer (m_is_integer)) := (ex_is_integer A).choose_spec
theorem d_is_integer (T : Txt K mg A fd) : FnD P w K mg base 1 (A 4) (fd 4) ["value"] (S_is_integer A) := by rw [S_is_integer_eq]; exact fn_gc (w_is_integer (k := 0) T)
theorem ex_is_permutation (A : Nat → Addr) : ∃ F : FS, F = gc (runF N_is_permutation (m_is_permutation (S_is_integer A))) := ⟨_, rfl⟩
noncomputable def S_is_permutation (A : Nat → Addr) : FS := (ex_is_permutation A).choose
theorem S_is_permutation_eq (A : Nat → Addr) : S_is_permutation A = gc (runF N_is_permutation (m_is_permutation (S_is_integer A))) := (ex_is_permutation A).choose_spec
noncomputable abbrev B_is_permutation_0 (A : Nat → Addr) : SS := b_is_permutation_0 (S_is_integer A)
theorem d_is_permutation (T : Txt K mg A fd) : FnD P w K mg base 2 (A 6) (fd 6) ["value"] (S_is_permutation A) := by rw [S_is_permutation_eq]; exact fn_gc (w_is_permutation (k := 1) T ((d_is_integer T).mono (by decide)))
theorem ex_is_system (A : Nat → Addr) : ∃ F : FS, F = gc (runF N_is_system (m_is_system (S_is_integer A) (S_is_permutation A))) := ⟨_, rfl⟩
noncomputable def S_is_system (A : Nat → Addr) : FS := (ex_is_system A).choose
theorem S_is_system_eq (A : Nat → Addr) : S_is_system A = gc (runF N_is_system (m_is_system (S_is_integer A) (S_is_permutation A))) := (ex_is_system A).choose_spec
noncomputable abbrev E_is_system_0 (A : Nat → Addr) : SE := e_is_system_0 (S_is_permutation A)
theorem d_is_system (T : Txt K mg A fd) : FnD P w K mg base 3 (A 17) (fd 17) ["value"] (S_is_system A) := by rw [S_is_system_eq]; exact fn_gc (w_is_system (k := 2) T ((d_is_integer T).mono (by decide)) ((d_is_permutation T).mono (by decide)))
theorem ex_check_system (A : Nat → Addr) : ∃ F : FS, F = gc (runF N_check_system (m_check_system A (S_is_system A))) := ⟨_, rfl⟩
noncomputable def S_check_system (A : Nat → Addr) : FS := (ex_check_system A).choose
theorem S_check_system_eq (A : Nat → Addr) : S_check_system A = gc (runF N_check_system (m_check_system A (S_is_system A))) := (ex_check_system A).choose_spec
theorem d_check_system (T : Txt K mg A fd) : FnD P w K mg base 4 (A 18) (fd 18) ["S"] (S_check_system A) := by rw [S_check_system_eq]; exact fn_gc (w_check_system (k := 3) T ((d_is_system T).mono (by decide)))
theorem ex_check_permutation (A : Nat → Addr) : ∃ F : FS, F = gc (runF N_check_permutation (m_check_permutation A (S_is_permutation A))) := ⟨_, rfl⟩
noncomputable def S_check_permutation (A : Nat → Addr) : FS := (ex_check_permutation A).choose
theorem S_check_permutation_eq (A : Nat → Addr) : S_check_permutation A = gc (runF N_check_permutation (m_check_permutation A (S_is_permutation A))) := (ex_check_permutation A).choose_spec
theorem d_check_permutation (T : Txt K mg A fd) : FnD P w K mg base 3 (A 7) (fd 7) ["p"] (S_check_permutation A) := by rw [S_check_permutation_eq]; exact fn_gc (w_check_permutation (k := 2) T ((d_is_permutation T).mono (by decide)))
theorem ex_rounds (A : Nat → Addr) : ∃ F : FS, F = gc (runF N_rounds (m_rounds)) := ⟨_, rfl⟩
noncomputable def S_rounds (A : Nat → Addr) : FS := (ex_rounds A).choose
theorem S_rounds_eq (A : Nat → Addr) : S_rounds A = gc (runF N_rounds (m_rounds)) := (ex_rounds A).choose_spec
noncomputable abbrev C_rounds_0 (A : Nat → Addr) : SB := c_rounds_0
noncomputable abbrev B_rounds_0 (A : Nat → Addr) : SS := b_rounds_0
noncomputable abbrev B_rounds_1 (A : Nat → Addr) : SS := b_rounds_1
theorem d_rounds (T : Txt K mg A fd) : FnD P w K mg base 1 (A 10) (fd 10) ["p"] (S_rounds A) := by rw [S_rounds_eq]; exact fn_gc (w_rounds (k := 0) T)
theorem ex_type_of (A : Nat → Addr) : ∃ F : FS, F = gc (runF N_type_of (m_type_of (S_rounds A))) := ⟨_, rfl⟩
noncomputable def S_type_of (A : Nat → Addr) : FS := (ex_type_of A).choose
theorem S_type_of_eq (A : Nat → Addr) : S_type_of A = gc (runF N_type_of (m_type_of (S_rounds A))) := (ex_type_of A).choose_spec
noncomputable abbrev E_type_of_0 (A : Nat → Addr) : SE := e_type_of_0
theorem d_type_of (T : Txt K mg A fd) : FnD P w K mg base 2 (A 11) (fd 11) ["p"] (S_type_of A) := by rw [S_type_of_eq]; exact fn_gc (w_type_of (k := 1) T ((d_rounds T).mono (by decide)))
theorem ex_cycle_type (A : Nat → Addr) : ∃ F : FS, F = gc (runF N_cycle_type (m_cycle_type (S_check_permutation A) (S_type_of A))) := ⟨_, rfl⟩
noncomputable def S_cycle_type (A : Nat → Addr) : FS := (ex_cycle_type A).choose
theorem S_cycle_type_eq (A : Nat → Addr) : S_cycle_type A = gc (runF N_cycle_type (m_cycle_type (S_check_permutation A) (S_type_of A))) := (ex_cycle_type A).choose_spec
theorem d_cycle_type (T : Txt K mg A fd) : FnD P w K mg base 4 (A 12) (fd 12) ["p"] (S_cycle_type A) := by rw [S_cycle_type_eq]; exact fn_gc (w_cycle_type (k := 3) T ((d_check_permutation T).mono (by decide)) ((d_type_of T).mono (by decide)))
theorem ex_datum_of (A : Nat → Addr) : ∃ F : FS, F = gc (runF N_datum_of (m_datum_of (S_check_system A) (S_cycle_type A))) := ⟨_, rfl⟩
noncomputable def S_datum_of (A : Nat → Addr) : FS := (ex_datum_of A).choose
theorem S_datum_of_eq (A : Nat → Addr) : S_datum_of A = gc (runF N_datum_of (m_datum_of (S_check_system A) (S_cycle_type A))) := (ex_datum_of A).choose_spec
noncomputable abbrev E_datum_of_0 (A : Nat → Addr) : SE := e_datum_of_0 (S_cycle_type A)
theorem d_datum_of (T : Txt K mg A fd) : FnD P w K mg base 5 (A 30) (fd 30) ["S"] (S_datum_of A) := by rw [S_datum_of_eq]; exact fn_gc (w_datum_of (k := 4) T ((d_check_system T).mono (by decide)) ((d_cycle_type T).mono (by decide)))
theorem ex_is_word (A : Nat → Addr) : ∃ F : FS, F = gc (runF N_is_word (m_is_word A (S_is_integer A))) := ⟨_, rfl⟩
noncomputable def S_is_word (A : Nat → Addr) : FS := (ex_is_word A).choose
theorem S_is_word_eq (A : Nat → Addr) : S_is_word A = gc (runF N_is_word (m_is_word A (S_is_integer A))) := (ex_is_word A).choose_spec
noncomputable abbrev E_is_word_0 (A : Nat → Addr) : SE := e_is_word_0 (S_is_integer A)
theorem d_is_word (T : Txt K mg A fd) : FnD P w K mg base 2 (A 24) (fd 24) ["value", "k"] (S_is_word A) := by rw [S_is_word_eq]; exact fn_gc (w_is_word (k := 1) T ((d_is_integer T).mono (by decide)))
theorem ex_check_word (A : Nat → Addr) : ∃ F : FS, F = gc (runF N_check_word (m_check_word A (S_is_word A))) := ⟨_, rfl⟩
noncomputable def S_check_word (A : Nat → Addr) : FS := (ex_check_word A).choose
theorem S_check_word_eq (A : Nat → Addr) : S_check_word A = gc (runF N_check_word (m_check_word A (S_is_word A))) := (ex_check_word A).choose_spec
theorem d_check_word (T : Txt K mg A fd) : FnD P w K mg base 3 (A 25) (fd 25) ["w", "k"] (S_check_word A) := by rw [S_check_word_eq]; exact fn_gc (w_check_word (k := 2) T ((d_is_word T).mono (by decide)))
theorem ex_undone (A : Nat → Addr) : ∃ F : FS, F = gc (runF N_undone (m_undone)) := ⟨_, rfl⟩
noncomputable def S_undone (A : Nat → Addr) : FS := (ex_undone A).choose
theorem S_undone_eq (A : Nat → Addr) : S_undone A = gc (runF N_undone (m_undone)) := (ex_undone A).choose_spec
noncomputable abbrev B_undone_0 (A : Nat → Addr) : SS := b_undone_0
theorem d_undone (T : Txt K mg A fd) : FnD P w K mg base 1 (A 8) (fd 8) ["p"] (S_undone A) := by rw [S_undone_eq]; exact fn_gc (w_undone (k := 0) T)
theorem ex_inverse_of (A : Nat → Addr) : ∃ F : FS, F = gc (runF N_inverse_of (m_inverse_of (S_check_permutation A) (S_undone A))) := ⟨_, rfl⟩
noncomputable def S_inverse_of (A : Nat → Addr) : FS := (ex_inverse_of A).choose
theorem S_inverse_of_eq (A : Nat → Addr) : S_inverse_of A = gc (runF N_inverse_of (m_inverse_of (S_check_permutation A) (S_undone A))) := (ex_inverse_of A).choose_spec
theorem d_inverse_of (T : Txt K mg A fd) : FnD P w K mg base 4 (A 9) (fd 9) ["p"] (S_inverse_of A) := by rw [S_inverse_of_eq]; exact fn_gc (w_inverse_of (k := 3) T ((d_check_permutation T).mono (by decide)) ((d_undone T).mono (by decide)))
theorem ex_letter_tables (A : Nat → Addr) : ∃ F : FS, F = runF N_letter_tables (m_letter_tables (S_inverse_of A)) := ⟨_, rfl⟩
noncomputable def S_letter_tables (A : Nat → Addr) : FS := (ex_letter_tables A).choose
theorem S_letter_tables_eq (A : Nat → Addr) : S_letter_tables A = runF N_letter_tables (m_letter_tables (S_inverse_of A)) := (ex_letter_tables A).choose_spec
noncomputable abbrev B_letter_tables_0 (A : Nat → Addr) : SS := b_letter_tables_0 (S_inverse_of A)
theorem d_letter_tables (T : Txt K mg A fd) : FnD P w K mg base 5 (A 26) (fd 26) ["S"] (S_letter_tables A) := by rw [S_letter_tables_eq]; exact w_letter_tables (k := 4) T ((d_inverse_of T).mono (by decide))
theorem ex_led_along (A : Nat → Addr) : ∃ F : FS, F = gc (runF N_led_along (m_led_along)) := ⟨_, rfl⟩
noncomputable def S_led_along (A : Nat → Addr) : FS := (ex_led_along A).choose
theorem S_led_along_eq (A : Nat → Addr) : S_led_along A = gc (runF N_led_along (m_led_along)) := (ex_led_along A).choose_spec
noncomputable abbrev B_led_along_0 (A : Nat → Addr) : SS := b_led_along_0
theorem d_led_along (T : Txt K mg A fd) : FnD P w K mg base 1 (A 27) (fd 27) ["tables", "x", "w"] (S_led_along A) := by rw [S_led_along_eq]; exact fn_gc (w_led_along (k := 0) T)
theorem ex_word_permutation (A : Nat → Addr) : ∃ F : FS, F = gc (runF N_word_permutation (m_word_permutation (S_check_system A) (S_check_word A) (S_letter_tables A) (S_led_along A))) := ⟨_, rfl⟩
noncomputable def S_word_permutation (A : Nat → Addr) : FS := (ex_word_permutation A).choose
theorem S_word_permutation_eq (A : Nat → Addr) : S_word_permutation A = gc (runF N_word_permutation (m_word_permutation (S_check_system A) (S_check_word A) (S_letter_tables A) (S_led_along A))) := (ex_word_permutation A).choose_spec
noncomputable abbrev E_word_permutation_0 (A : Nat → Addr) : SE := e_word_permutation_0 (S_led_along A)
theorem d_word_permutation (T : Txt K mg A fd) : FnD P w K mg base 6 (A 28) (fd 28) ["S", "w"] (S_word_permutation A) := by rw [S_word_permutation_eq]; exact fn_gc (w_word_permutation (k := 5) T ((d_check_system T).mono (by decide)) ((d_check_word T).mono (by decide)) ((d_letter_tables T).mono (by decide)) ((d_led_along T).mono (by decide)))
theorem ex_law_letters (A : Nat → Addr) : ∃ F : FS, F = gc (runF N_law_letters (m_law_letters)) := ⟨_, rfl⟩
noncomputable def S_law_letters (A : Nat → Addr) : FS := (ex_law_letters A).choose
theorem S_law_letters_eq (A : Nat → Addr) : S_law_letters A = gc (runF N_law_letters (m_law_letters)) := (ex_law_letters A).choose_spec
noncomputable abbrev B_law_letters_0 (A : Nat → Addr) : SS := b_law_letters_0
theorem d_law_letters (T : Txt K mg A fd) : FnD P w K mg base 1 (A 52) (fd 52) ["k"] (S_law_letters A) := by rw [S_law_letters_eq]; exact fn_gc (w_law_letters (k := 0) T)
theorem ex_law_word (A : Nat → Addr) : ∃ F : FS, F = gc (runF N_law_word (m_law_word (S_law_letters A) (S_law_take A))) := ⟨_, rfl⟩
noncomputable def S_law_word (A : Nat → Addr) : FS := (ex_law_word A).choose
theorem S_law_word_eq (A : Nat → Addr) : S_law_word A = gc (runF N_law_word (m_law_word (S_law_letters A) (S_law_take A))) := (ex_law_word A).choose_spec
noncomputable abbrev E_law_word_0 (A : Nat → Addr) : SE := e_law_word_0 (S_law_take A)
theorem d_law_word (T : Txt K mg A fd) : FnD P w K mg base 2 (A 57) (fd 57) ["state", "k", "most"] (S_law_word A) := by rw [S_law_word_eq]; exact fn_gc (w_law_word (k := 1) T ((d_law_letters T).mono (by decide)) ((d_law_take T).mono (by decide)))
theorem ex_told_system (A : Nat → Addr) : ∃ F : FS, F = gc (runF N_told_system (m_told_system A (S_check_system A) (S_letter_tables A) (S_is_word A) (S_led_along A))) := ⟨_, rfl⟩
noncomputable def S_told_system (A : Nat → Addr) : FS := (ex_told_system A).choose
theorem S_told_system_eq (A : Nat → Addr) : S_told_system A = gc (runF N_told_system (m_told_system A (S_check_system A) (S_letter_tables A) (S_is_word A) (S_led_along A))) := (ex_told_system A).choose_spec
noncomputable abbrev E_told_system_0 (A : Nat → Addr) : SE := e_told_system_0 (S_led_along A)
noncomputable abbrev E_told_system_1 (A : Nat → Addr) : SE := e_told_system_1 (S_led_along A)
noncomputable abbrev E_told_system_2 (A : Nat → Addr) : SE := e_told_system_2 (S_is_word A)
theorem d_told_system (T : Txt K mg A fd) : FnD P w K mg base 6 (A 36) (fd 36) ["S", "words"] (S_told_system A) := by rw [S_told_system_eq]; exact fn_gc (w_told_system (k := 5) T ((d_check_system T).mono (by decide)) ((d_letter_tables T).mono (by decide)) ((d_is_word T).mono (by decide)) ((d_led_along T).mono (by decide)))
theorem ex_found_parts (A : Nat → Addr) : ∃ F : FS, F = gc (runF N_found_parts (m_found_parts)) := ⟨_, rfl⟩
noncomputable def S_found_parts (A : Nat → Addr) : FS := (ex_found_parts A).choose
theorem S_found_parts_eq (A : Nat → Addr) : S_found_parts A = gc (runF N_found_parts (m_found_parts)) := (ex_found_parts A).choose_spec
noncomputable abbrev B_found_parts_0 (A : Nat → Addr) : SS := b_found_parts_0
noncomputable abbrev C_found_parts_0 (A : Nat → Addr) : SB := c_found_parts_0
noncomputable abbrev B_found_parts_1 (A : Nat → Addr) : SS := b_found_parts_1
noncomputable abbrev B_found_parts_2 (A : Nat → Addr) : SS := b_found_parts_2
theorem d_found_parts (T : Txt K mg A fd) : FnD P w K mg base 1 (A 21) (fd 21) ["S"] (S_found_parts A) := by rw [S_found_parts_eq]; exact fn_gc (w_found_parts (k := 0) T)
theorem ex_system_parts (A : Nat → Addr) : ∃ F : FS, F = gc (runF N_system_parts (m_system_parts (S_check_system A) (S_found_parts A))) := ⟨_, rfl⟩
noncomputable def S_system_parts (A : Nat → Addr) : FS := (ex_system_parts A).choose
theorem S_system_parts_eq (A : Nat → Addr) : S_system_parts A = gc (runF N_system_parts (m_system_parts (S_check_system A) (S_found_parts A))) := (ex_system_parts A).choose_spec
theorem d_system_parts (T : Txt K mg A fd) : FnD P w K mg base 5 (A 29) (fd 29) ["S"] (S_system_parts A) := by rw [S_system_parts_eq]; exact fn_gc (w_system_parts (k := 4) T ((d_check_system T).mono (by decide)) ((d_found_parts T).mono (by decide)))
theorem ex_law_cycles (A : Nat → Addr) : ∃ F : FS, F = gc (runF N_law_cycles (m_law_cycles)) := ⟨_, rfl⟩
noncomputable def S_law_cycles (A : Nat → Addr) : FS := (ex_law_cycles A).choose
theorem S_law_cycles_eq (A : Nat → Addr) : S_law_cycles A = gc (runF N_law_cycles (m_law_cycles)) := (ex_law_cycles A).choose_spec
noncomputable abbrev C_law_cycles_0 (A : Nat → Addr) : SB := c_law_cycles_0
noncomputable abbrev B_law_cycles_0 (A : Nat → Addr) : SS := b_law_cycles_0
noncomputable abbrev B_law_cycles_1 (A : Nat → Addr) : SS := b_law_cycles_1
noncomputable abbrev E_law_cycles_0 (A : Nat → Addr) : SE := e_law_cycles_0
theorem d_law_cycles (T : Txt K mg A fd) : FnD P w K mg base 1 (A 46) (fd 46) ["p"] (S_law_cycles A) := by rw [S_law_cycles_eq]; exact fn_gc (w_law_cycles (k := 0) T)
theorem ex_law_type (A : Nat → Addr) : ∃ F : FS, F = gc (runF N_law_type (m_law_type (S_law_cycles A))) := ⟨_, rfl⟩
noncomputable def S_law_type (A : Nat → Addr) : FS := (ex_law_type A).choose
theorem S_law_type_eq (A : Nat → Addr) : S_law_type A = gc (runF N_law_type (m_law_type (S_law_cycles A))) := (ex_law_type A).choose_spec
noncomputable abbrev E_law_type_0 (A : Nat → Addr) : SE := e_law_type_0
theorem d_law_type (T : Txt K mg A fd) : FnD P w K mg base 2 (A 47) (fd 47) ["p"] (S_law_type A) := by rw [S_law_type_eq]; exact fn_gc (w_law_type (k := 1) T ((d_law_cycles T).mono (by decide)))
theorem ex_law_renumbered (A : Nat → Addr) : ∃ F : FS, F = gc (runF N_law_renumbered (m_law_renumbered)) := ⟨_, rfl⟩
noncomputable def S_law_renumbered (A : Nat → Addr) : FS := (ex_law_renumbered A).choose
theorem S_law_renumbered_eq (A : Nat → Addr) : S_law_renumbered A = gc (runF N_law_renumbered (m_law_renumbered)) := (ex_law_renumbered A).choose_spec
noncomputable abbrev B_law_renumbered_0 (A : Nat → Addr) : SS := b_law_renumbered_0
noncomputable abbrev E_law_renumbered_0 (A : Nat → Addr) : SE := e_law_renumbered_0
theorem d_law_renumbered (T : Txt K mg A fd) : FnD P w K mg base 1 (A 49) (fd 49) ["p", "f"] (S_law_renumbered A) := by rw [S_law_renumbered_eq]; exact fn_gc (w_law_renumbered (k := 0) T)
theorem ex_law_turned_system (A : Nat → Addr) : ∃ F : FS, F = gc (runF N_law_turned_system (m_law_turned_system (S_law_renumbered A))) := ⟨_, rfl⟩
noncomputable def S_law_turned_system (A : Nat → Addr) : FS := (ex_law_turned_system A).choose
theorem S_law_turned_system_eq (A : Nat → Addr) : S_law_turned_system A = gc (runF N_law_turned_system (m_law_turned_system (S_law_renumbered A))) := (ex_law_turned_system A).choose_spec
noncomputable abbrev E_law_turned_system_0 (A : Nat → Addr) : SE := e_law_turned_system_0 (S_law_renumbered A)
theorem d_law_turned_system (T : Txt K mg A fd) : FnD P w K mg base 2 (A 50) (fd 50) ["S", "f"] (S_law_turned_system A) := by rw [S_law_turned_system_eq]; exact fn_gc (w_law_turned_system (k := 1) T ((d_law_renumbered T).mono (by decide)))
theorem ex_law_numbered (A : Nat → Addr) : ∃ F : FS, F = gc (runF N_law_numbered (m_law_numbered (S_law_turned_system A))) := ⟨_, rfl⟩
noncomputable def S_law_numbered (A : Nat → Addr) : FS := (ex_law_numbered A).choose
theorem S_law_numbered_eq (A : Nat → Addr) : S_law_numbered A = gc (runF N_law_numbered (m_law_numbered (S_law_turned_system A))) := (ex_law_numbered A).choose_spec
noncomputable abbrev E_law_numbered_0 (A : Nat → Addr) : SE := e_law_numbered_0
noncomputable abbrev B_law_numbered_0 (A : Nat → Addr) : SS := b_law_numbered_0
noncomputable abbrev C_law_numbered_0 (A : Nat → Addr) : SB := c_law_numbered_0
noncomputable abbrev B_law_numbered_1 (A : Nat → Addr) : SS := b_law_numbered_1
theorem d_law_numbered (T : Txt K mg A fd) : FnD P w K mg base 3 (A 51) (fd 51) ["S", "x"] (S_law_numbered A) := by rw [S_law_numbered_eq]; exact fn_gc (w_law_numbered (k := 2) T ((d_law_turned_system T).mono (by decide)))
theorem ex_law_step (A : Nat → Addr) : ∃ F : FS, F = gc (runF N_law_step (m_law_step (S_law_inverse A))) := ⟨_, rfl⟩
noncomputable def S_law_step (A : Nat → Addr) : FS := (ex_law_step A).choose
theorem S_law_step_eq (A : Nat → Addr) : S_law_step A = gc (runF N_law_step (m_law_step (S_law_inverse A))) := (ex_law_step A).choose_spec
theorem d_law_step (T : Txt K mg A fd) : FnD P w K mg base 2 (A 53) (fd 53) ["S", "x", "i"] (S_law_step A) := by rw [S_law_step_eq]; exact fn_gc (w_law_step (k := 1) T ((d_law_inverse T).mono (by decide)))
theorem ex_law_leading (A : Nat → Addr) : ∃ F : FS, F = gc (runF N_law_leading (m_law_leading (S_law_letters A) (S_law_step A))) := ⟨_, rfl⟩
noncomputable def S_law_leading (A : Nat → Addr) : FS := (ex_law_leading A).choose
theorem S_law_leading_eq (A : Nat → Addr) : S_law_leading A = gc (runF N_law_leading (m_law_leading (S_law_letters A) (S_law_step A))) := (ex_law_leading A).choose_spec
noncomputable abbrev E_law_leading_0 (A : Nat → Addr) : SE := e_law_leading_0
noncomputable abbrev B_law_leading_0 (A : Nat → Addr) : SS := b_law_leading_0 (S_law_step A)
noncomputable abbrev C_law_leading_0 (A : Nat → Addr) : SB := c_law_leading_0
noncomputable abbrev B_law_leading_1 (A : Nat → Addr) : SS := b_law_leading_1 (S_law_step A)
theorem d_law_leading (T : Txt K mg A fd) : FnD P w K mg base 3 (A 54) (fd 54) ["S", "x"] (S_law_leading A) := by rw [S_law_leading_eq]; exact fn_gc (w_law_leading (k := 2) T ((d_law_letters T).mono (by decide)) ((d_law_step T).mono (by decide)))
theorem ex_law_least (A : Nat → Addr) : ∃ F : FS, F = gc (runF N_law_least (m_law_least (S_law_numbered A))) := ⟨_, rfl⟩
noncomputable def S_law_least (A : Nat → Addr) : FS := (ex_law_least A).choose
theorem S_law_least_eq (A : Nat → Addr) : S_law_least A = gc (runF N_law_least (m_law_least (S_law_numbered A))) := (ex_law_least A).choose_spec
noncomputable abbrev E_law_least_0 (A : Nat → Addr) : SE := e_law_least_0 (S_law_numbered A)
theorem d_law_least (T : Txt K mg A fd) : FnD P w K mg base 4 (A 55) (fd 55) ["S"] (S_law_least A) := by rw [S_law_least_eq]; exact fn_gc (w_law_least (k := 3) T ((d_law_numbered T).mono (by decide)))
theorem ex_has_one_part (A : Nat → Addr) : ∃ F : FS, F = gc (runF N_has_one_part (m_has_one_part (S_found_parts A))) := ⟨_, rfl⟩
noncomputable def S_has_one_part (A : Nat → Addr) : FS := (ex_has_one_part A).choose
theorem S_has_one_part_eq (A : Nat → Addr) : S_has_one_part A = gc (runF N_has_one_part (m_has_one_part (S_found_parts A))) := (ex_has_one_part A).choose_spec
theorem d_has_one_part (T : Txt K mg A fd) : FnD P w K mg base 2 (A 22) (fd 22) ["S"] (S_has_one_part A) := by rw [S_has_one_part_eq]; exact fn_gc (w_has_one_part (k := 1) T ((d_found_parts T).mono (by decide)))
theorem ex_check_connected (A : Nat → Addr) : ∃ F : FS, F = gc (runF N_check_connected (m_check_connected A (S_check_system A) (S_has_one_part A))) := ⟨_, rfl⟩
noncomputable def S_check_connected (A : Nat → Addr) : FS := (ex_check_connected A).choose
theorem S_check_connected_eq (A : Nat → Addr) : S_check_connected A = gc (runF N_check_connected (m_check_connected A (S_check_system A) (S_has_one_part A))) := (ex_check_connected A).choose_spec
theorem d_check_connected (T : Txt K mg A fd) : FnD P w K mg base 5 (A 23) (fd 23) ["S"] (S_check_connected A) := by rw [S_check_connected_eq]; exact fn_gc (w_check_connected (k := 4) T ((d_check_system T).mono (by decide)) ((d_has_one_part T).mono (by decide)))
theorem ex_is_sheet (A : Nat → Addr) : ∃ F : FS, F = gc (runF N_is_sheet (m_is_sheet (S_is_integer A))) := ⟨_, rfl⟩
noncomputable def S_is_sheet (A : Nat → Addr) : FS := (ex_is_sheet A).choose
theorem S_is_sheet_eq (A : Nat → Addr) : S_is_sheet A = gc (runF N_is_sheet (m_is_sheet (S_is_integer A))) := (ex_is_sheet A).choose_spec
theorem d_is_sheet (T : Txt K mg A fd) : FnD P w K mg base 2 (A 19) (fd 19) ["value", "S"] (S_is_sheet A) := by rw [S_is_sheet_eq]; exact fn_gc (w_is_sheet (k := 1) T ((d_is_integer T).mono (by decide)))
theorem ex_check_sheet (A : Nat → Addr) : ∃ F : FS, F = gc (runF N_check_sheet (m_check_sheet A (S_is_sheet A))) := ⟨_, rfl⟩
noncomputable def S_check_sheet (A : Nat → Addr) : FS := (ex_check_sheet A).choose
theorem S_check_sheet_eq (A : Nat → Addr) : S_check_sheet A = gc (runF N_check_sheet (m_check_sheet A (S_is_sheet A))) := (ex_check_sheet A).choose_spec
theorem d_check_sheet (T : Txt K mg A fd) : FnD P w K mg base 3 (A 20) (fd 20) ["x", "S"] (S_check_sheet A) := by rw [S_check_sheet_eq]; exact fn_gc (w_check_sheet (k := 2) T ((d_is_sheet T).mono (by decide)))
theorem ex_counted_from (A : Nat → Addr) : ∃ F : FS, F = gc (runF N_counted_from (m_counted_from)) := ⟨_, rfl⟩
noncomputable def S_counted_from (A : Nat → Addr) : FS := (ex_counted_from A).choose
theorem S_counted_from_eq (A : Nat → Addr) : S_counted_from A = gc (runF N_counted_from (m_counted_from)) := (ex_counted_from A).choose_spec
noncomputable abbrev E_counted_from_0 (A : Nat → Addr) : SE := e_counted_from_0
noncomputable abbrev E_counted_from_1 (A : Nat → Addr) : SE := e_counted_from_1
noncomputable abbrev B_counted_from_0 (A : Nat → Addr) : SS := b_counted_from_0
noncomputable abbrev C_counted_from_0 (A : Nat → Addr) : SB := c_counted_from_0
noncomputable abbrev B_counted_from_1 (A : Nat → Addr) : SS := b_counted_from_1
theorem d_counted_from (T : Txt K mg A fd) : FnD P w K mg base 1 (A 31) (fd 31) ["S", "x"] (S_counted_from A) := by rw [S_counted_from_eq]; exact fn_gc (w_counted_from (k := 0) T)
theorem ex_numbered_from (A : Nat → Addr) : ∃ F : FS, F = gc (runF N_numbered_from (m_numbered_from (S_check_connected A) (S_check_sheet A) (S_counted_from A))) := ⟨_, rfl⟩
noncomputable def S_numbered_from (A : Nat → Addr) : FS := (ex_numbered_from A).choose
theorem S_numbered_from_eq (A : Nat → Addr) : S_numbered_from A = gc (runF N_numbered_from (m_numbered_from (S_check_connected A) (S_check_sheet A) (S_counted_from A))) := (ex_numbered_from A).choose_spec
theorem d_numbered_from (T : Txt K mg A fd) : FnD P w K mg base 6 (A 32) (fd 32) ["S", "x"] (S_numbered_from A) := by rw [S_numbered_from_eq]; exact fn_gc (w_numbered_from (k := 5) T ((d_check_connected T).mono (by decide)) ((d_check_sheet T).mono (by decide)) ((d_counted_from T).mono (by decide)))
theorem ex_words_from (A : Nat → Addr) : ∃ F : FS, F = gc (runF N_words_from (m_words_from (S_letter_tables A))) := ⟨_, rfl⟩
noncomputable def S_words_from (A : Nat → Addr) : FS := (ex_words_from A).choose
theorem S_words_from_eq (A : Nat → Addr) : S_words_from A = gc (runF N_words_from (m_words_from (S_letter_tables A))) := (ex_words_from A).choose_spec
noncomputable abbrev E_words_from_0 (A : Nat → Addr) : SE := e_words_from_0
noncomputable abbrev B_words_from_0 (A : Nat → Addr) : SS := b_words_from_0
noncomputable abbrev C_words_from_0 (A : Nat → Addr) : SB := c_words_from_0
noncomputable abbrev B_words_from_1 (A : Nat → Addr) : SS := b_words_from_1
noncomputable abbrev B_words_from_2 (A : Nat → Addr) : SS := b_words_from_2
theorem d_words_from (T : Txt K mg A fd) : FnD P w K mg base 6 (A 34) (fd 34) ["S", "x"] (S_words_from A) := by rw [S_words_from_eq]; exact fn_gc (w_words_from (k := 5) T ((d_letter_tables T).mono (by decide)))
theorem ex_leading_words (A : Nat → Addr) : ∃ F : FS, F = gc (runF N_leading_words (m_leading_words (S_check_connected A) (S_check_sheet A) (S_words_from A))) := ⟨_, rfl⟩
noncomputable def S_leading_words (A : Nat → Addr) : FS := (ex_leading_words A).choose
theorem S_leading_words_eq (A : Nat → Addr) : S_leading_words A = gc (runF N_leading_words (m_leading_words (S_check_connected A) (S_check_sheet A) (S_words_from A))) := (ex_leading_words A).choose_spec
theorem d_leading_words (T : Txt K mg A fd) : FnD P w K mg base 7 (A 35) (fd 35) ["S", "x"] (S_leading_words A) := by rw [S_leading_words_eq]; exact fn_gc (w_leading_words (k := 6) T ((d_check_connected T).mono (by decide)) ((d_check_sheet T).mono (by decide)) ((d_words_from T).mono (by decide)))
theorem ex_least_system (A : Nat → Addr) : ∃ F : FS, F = gc (runF N_least_system (m_least_system (S_check_connected A) (S_counted_from A))) := ⟨_, rfl⟩
noncomputable def S_least_system (A : Nat → Addr) : FS := (ex_least_system A).choose
theorem S_least_system_eq (A : Nat → Addr) : S_least_system A = gc (runF N_least_system (m_least_system (S_check_connected A) (S_counted_from A))) := (ex_least_system A).choose_spec
noncomputable abbrev E_least_system_0 (A : Nat → Addr) : SE := e_least_system_0 (S_counted_from A)
theorem d_least_system (T : Txt K mg A fd) : FnD P w K mg base 6 (A 33) (fd 33) ["S"] (S_least_system A) := by rw [S_least_system_eq]; exact fn_gc (w_least_system (k := 5) T ((d_check_connected T).mono (by decide)) ((d_counted_from T).mono (by decide)))
theorem ex_law_walk (A : Nat → Addr) : ∃ F : FS, F = gc (runF N_law_walk (m_law_walk (S_law_step A))) := ⟨_, rfl⟩
noncomputable def S_law_walk (A : Nat → Addr) : FS := (ex_law_walk A).choose
theorem S_law_walk_eq (A : Nat → Addr) : S_law_walk A = gc (runF N_law_walk (m_law_walk (S_law_step A))) := (ex_law_walk A).choose_spec
noncomputable abbrev B_law_walk_0 (A : Nat → Addr) : SS := b_law_walk_0 (S_law_step A)
theorem d_law_walk (T : Txt K mg A fd) : FnD P w K mg base 3 (A 58) (fd 58) ["S", "x", "w"] (S_law_walk A) := by rw [S_law_walk_eq]; exact fn_gc (w_law_walk (k := 2) T ((d_law_step T).mono (by decide)))
theorem ex_law (A : Nat → Addr) : ∃ F : FS, F = gc (runF N_law (m_law (S_law_state A) (S_law_system A) (S_law_is_connected A) (S_law_plain A) (S_law_take A) (S_law_product A) (S_is_system A) (S_law_parts A) (S_datum_of A) (S_word_permutation A) (S_law_word A) (S_told_system A) (S_system_parts A) (S_law_type A) (S_law_numbered A) (S_law_leading A) (S_law_least A) (S_numbered_from A) (S_leading_words A) (S_least_system A) (S_law_walk A))) := ⟨_, rfl⟩
noncomputable def S_law (A : Nat → Addr) : FS := (ex_law A).choose
theorem S_law_eq (A : Nat → Addr) : S_law A = gc (runF N_law (m_law (S_law_state A) (S_law_system A) (S_law_is_connected A) (S_law_plain A) (S_law_take A) (S_law_product A) (S_is_system A) (S_law_parts A) (S_datum_of A) (S_word_permutation A) (S_law_word A) (S_told_system A) (S_system_parts A) (S_law_type A) (S_law_numbered A) (S_law_leading A) (S_law_least A) (S_numbered_from A) (S_leading_words A) (S_least_system A) (S_law_walk A))) := (ex_law A).choose_spec
noncomputable abbrev E_law_0 (A : Nat → Addr) : SE := e_law_0 (S_law_walk A)
noncomputable abbrev B_law_0 (A : Nat → Addr) : SS := b_law_0 (S_law_walk A)
noncomputable abbrev E_law_1 (A : Nat → Addr) : SE := e_law_1 (S_law_word A)
noncomputable abbrev B_law_1 (A : Nat → Addr) : SS := b_law_1 (S_law_product A)
noncomputable abbrev B_law_2 (A : Nat → Addr) : SS := b_law_2 (S_law_product A)
noncomputable abbrev E_law_2 (A : Nat → Addr) : SE := e_law_2 (S_law_take A)
noncomputable abbrev E_law_3 (A : Nat → Addr) : SE := e_law_3 (S_law_type A)
theorem d_law (T : Txt K mg A fd) : FnD P w K mg base 8 (A 59) (fd 59) ["script"] (S_law A) := by rw [S_law_eq]; exact fn_gc (w_law (k := 7) T ((d_law_state T).mono (by decide)) ((d_law_system T).mono (by decide)) ((d_law_is_connected T).mono (by decide)) ((d_law_plain T).mono (by decide)) ((d_law_take T).mono (by decide)) ((d_law_product T).mono (by decide)) ((d_is_system T).mono (by decide)) ((d_law_parts T).mono (by decide)) ((d_datum_of T).mono (by decide)) ((d_word_permutation T).mono (by decide)) ((d_law_word T).mono (by decide)) ((d_told_system T).mono (by decide)) ((d_system_parts T).mono (by decide)) ((d_law_type T).mono (by decide)) ((d_law_numbered T).mono (by decide)) ((d_law_leading T).mono (by decide)) ((d_law_least T).mono (by decide)) ((d_numbered_from T).mono (by decide)) ((d_leading_words T).mono (by decide)) ((d_least_system T).mono (by decide)) ((d_law_walk T).mono (by decide)))
end
theorem all_mk {l : PySem.W.OpenLaw} {w : World} {K : PySem.W.Frag} {h : Heap} {mg : Str → Option Value} {fa : Addr}
    {f2 f4 f6 f7 f8 f9 f10 f11 f12 f17 f18 f19 f20 f21 f22 f23 f24 f25 f26 f27 f28 f29 f30 f31 f32 f33 f34 f35 f36 f38 f39 f40 f41 f42 f43 f44 f45 f46 f47 f48 f49 f50 f51 f52 f53 f54 f55 f56 f57 f58 f59 : Addr}
    {od40 an40 : Option Addr} {sl40 : Array (Option Value)} {oc40 kV40 dc40 pm40 cd40 ct40 : Value}
    {od41 an41 : Option Addr} {sl41 : Array (Option Value)} {oc41 kV41 dc41 pm41 cd41 ct41 : Value}
    {od42 an42 : Option Addr} {sl42 : Array (Option Value)} {oc42 kV42 dc42 pm42 cd42 ct42 : Value}
    {od43 an43 : Option Addr} {sl43 : Array (Option Value)} {oc43 kV43 dc43 pm43 cd43 ct43 : Value}
    {od44 an44 : Option Addr} {sl44 : Array (Option Value)} {oc44 kV44 dc44 pm44 cd44 ct44 : Value}
    {od45 an45 : Option Addr} {sl45 : Array (Option Value)} {oc45 kV45 dc45 pm45 cd45 ct45 : Value}
    {od48 an48 : Option Addr} {sl48 : Array (Option Value)} {oc48 kV48 dc48 pm48 cd48 ct48 : Value}
    {od38 an38 : Option Addr} {sl38 : Array (Option Value)} {oc38 kV38 dc38 pm38 cd38 ct38 : Value}
    {od39 an39 : Option Addr} {sl39 : Array (Option Value)} {oc39 kV39 dc39 pm39 cd39 ct39 : Value}
    {od56 an56 : Option Addr} {sl56 : Array (Option Value)} {oc56 kV56 dc56 pm56 cd56 ct56 : Value}
    {od4 an4 : Option Addr} {sl4 : Array (Option Value)} {oc4 kV4 dc4 pm4 cd4 ct4 : Value}
    {od6 an6 : Option Addr} {sl6 : Array (Option Value)} {oc6 kV6 dc6 pm6 cd6 ct6 : Value}
    {od17 an17 : Option Addr} {sl17 : Array (Option Value)} {oc17 kV17 dc17 pm17 cd17 ct17 : Value}
    {od18 an18 : Option Addr} {sl18 : Array (Option Value)} {oc18 kV18 dc18 pm18 cd18 ct18 : Value}
    {od7 an7 : Option Addr} {sl7 : Array (Option Value)} {oc7 kV7 dc7 pm7 cd7 ct7 : Value}
    {od10 an10 : Option Addr} {sl10 : Array (Option Value)} {oc10 kV10 dc10 pm10 cd10 ct10 : Value}
    {od11 an11 : Option Addr} {sl11 : Array (Option Value)} {oc11 kV11 dc11 pm11 cd11 ct11 : Value}
    {od12 an12 : Option Addr} {sl12 : Array (Option Value)} {oc12 kV12 dc12 pm12 cd12 ct12 : Value}
    {od30 an30 : Option Addr} {sl30 : Array (Option Value)} {oc30 kV30 dc30 pm30 cd30 ct30 : Value}
    {od24 an24 : Option Addr} {sl24 : Array (Option Value)} {oc24 kV24 dc24 pm24 cd24 ct24 : Value}
    {od25 an25 : Option Addr} {sl25 : Array (Option Value)} {oc25 kV25 dc25 pm25 cd25 ct25 : Value}
    {od8 an8 : Option Addr} {sl8 : Array (Option Value)} {oc8 kV8 dc8 pm8 cd8 ct8 : Value}
    {od9 an9 : Option Addr} {sl9 : Array (Option Value)} {oc9 kV9 dc9 pm9 cd9 ct9 : Value}
    {od26 an26 : Option Addr} {sl26 : Array (Option Value)} {oc26 kV26 dc26 pm26 cd26 ct26 : Value}
    {od27 an27 : Option Addr} {sl27 : Array (Option Value)} {oc27 kV27 dc27 pm27 cd27 ct27 : Value}
    {od28 an28 : Option Addr} {sl28 : Array (Option Value)} {oc28 kV28 dc28 pm28 cd28 ct28 : Value}
    {od52 an52 : Option Addr} {sl52 : Array (Option Value)} {oc52 kV52 dc52 pm52 cd52 ct52 : Value}
    {od57 an57 : Option Addr} {sl57 : Array (Option Value)} {oc57 kV57 dc57 pm57 cd57 ct57 : Value}
    {od36 an36 : Option Addr} {sl36 : Array (Option Value)} {oc36 kV36 dc36 pm36 cd36 ct36 : Value}
    {od21 an21 : Option Addr} {sl21 : Array (Option Value)} {oc21 kV21 dc21 pm21 cd21 ct21 : Value}
    {od29 an29 : Option Addr} {sl29 : Array (Option Value)} {oc29 kV29 dc29 pm29 cd29 ct29 : Value}
    {od46 an46 : Option Addr} {sl46 : Array (Option Value)} {oc46 kV46 dc46 pm46 cd46 ct46 : Value}
    {od47 an47 : Option Addr} {sl47 : Array (Option Value)} {oc47 kV47 dc47 pm47 cd47 ct47 : Value}
    {od49 an49 : Option Addr} {sl49 : Array (Option Value)} {oc49 kV49 dc49 pm49 cd49 ct49 : Value}
    {od50 an50 : Option Addr} {sl50 : Array (Option Value)} {oc50 kV50 dc50 pm50 cd50 ct50 : Value}
    {od51 an51 : Option Addr} {sl51 : Array (Option Value)} {oc51 kV51 dc51 pm51 cd51 ct51 : Value}
    {od53 an53 : Option Addr} {sl53 : Array (Option Value)} {oc53 kV53 dc53 pm53 cd53 ct53 : Value}
    {od54 an54 : Option Addr} {sl54 : Array (Option Value)} {oc54 kV54 dc54 pm54 cd54 ct54 : Value}
    {od55 an55 : Option Addr} {sl55 : Array (Option Value)} {oc55 kV55 dc55 pm55 cd55 ct55 : Value}
    {od22 an22 : Option Addr} {sl22 : Array (Option Value)} {oc22 kV22 dc22 pm22 cd22 ct22 : Value}
    {od23 an23 : Option Addr} {sl23 : Array (Option Value)} {oc23 kV23 dc23 pm23 cd23 ct23 : Value}
    {od19 an19 : Option Addr} {sl19 : Array (Option Value)} {oc19 kV19 dc19 pm19 cd19 ct19 : Value}
    {od20 an20 : Option Addr} {sl20 : Array (Option Value)} {oc20 kV20 dc20 pm20 cd20 ct20 : Value}
    {od31 an31 : Option Addr} {sl31 : Array (Option Value)} {oc31 kV31 dc31 pm31 cd31 ct31 : Value}
    {od32 an32 : Option Addr} {sl32 : Array (Option Value)} {oc32 kV32 dc32 pm32 cd32 ct32 : Value}
    {od34 an34 : Option Addr} {sl34 : Array (Option Value)} {oc34 kV34 dc34 pm34 cd34 ct34 : Value}
    {od35 an35 : Option Addr} {sl35 : Array (Option Value)} {oc35 kV35 dc35 pm35 cd35 ct35 : Value}
    {od33 an33 : Option Addr} {sl33 : Array (Option Value)} {oc33 kV33 dc33 pm33 cd33 ct33 : Value}
    {od58 an58 : Option Addr} {sl58 : Array (Option Value)} {oc58 kV58 dc58 pm58 cd58 ct58 : Value}
    {od59 an59 : Option Addr} {sl59 : Array (Option Value)} {oc59 kV59 dc59 pm59 cd59 ct59 : Value}
    {t_MOST_LETTERS : Tok}
    {t_MOST_RANK : Tok}
    {t_MOST_SHEETS : Tok} (X : K.In h) (G : h.Ns mainGlobals mg) (hfa : mg "law" = some (.ref fa))
    (a40 : PySem.W.nsIn K mainGlobals "_law_state" = some (some (.ref f40))) (l40 : K.lookup f40 = some ⟨oc40, od40, .func (PySem.W.fnOf "_law_state" "_law_state" (defArgs s_law_state) (defBody s_law_state) (defScope s_law_state) .none kV40 dc40 pm40 an40 cd40 ct40), sl40⟩) (c40 : PySem.W.codeIn K cd40 "_law_state" = true) (k40 : PySem.W.keepIn K (.ref f40) = true)
    (a41 : PySem.W.nsIn K mainGlobals "_law_take" = some (some (.ref f41))) (l41 : K.lookup f41 = some ⟨oc41, od41, .func (PySem.W.fnOf "_law_take" "_law_take" (defArgs s_law_take) (defBody s_law_take) (defScope s_law_take) .none kV41 dc41 pm41 an41 cd41 ct41), sl41⟩) (c41 : PySem.W.codeIn K cd41 "_law_take" = true) (k41 : PySem.W.keepIn K (.ref f41) = true)
    (a42 : PySem.W.nsIn K mainGlobals "_law_inverse" = some (some (.ref f42))) (l42 : K.lookup f42 = some ⟨oc42, od42, .func (PySem.W.fnOf "_law_inverse" "_law_inverse" (defArgs s_law_inverse) (defBody s_law_inverse) (defScope s_law_inverse) .none kV42 dc42 pm42 an42 cd42 ct42), sl42⟩) (c42 : PySem.W.codeIn K cd42 "_law_inverse" = true) (k42 : PySem.W.keepIn K (.ref f42) = true)
    (a43 : PySem.W.nsIn K mainGlobals "_law_permutation" = some (some (.ref f43))) (l43 : K.lookup f43 = some ⟨oc43, od43, .func (PySem.W.fnOf "_law_permutation" "_law_permutation" (defArgs s_law_permutation) (defBody s_law_permutation) (defScope s_law_permutation) .none kV43 dc43 pm43 an43 cd43 ct43), sl43⟩) (c43 : PySem.W.codeIn K cd43 "_law_permutation" = true) (k43 : PySem.W.keepIn K (.ref f43) = true)
    (a44 : PySem.W.nsIn K mainGlobals "_law_system" = some (some (.ref f44))) (l44 : K.lookup f44 = some ⟨oc44, od44, .func (PySem.W.fnOf "_law_system" "_law_system" (defArgs s_law_system) (defBody s_law_system) (defScope s_law_system) .none kV44 dc44 pm44 an44 cd44 ct44), sl44⟩) (c44 : PySem.W.codeIn K cd44 "_law_system" = true) (k44 : PySem.W.keepIn K (.ref f44) = true)
    (a45 : PySem.W.nsIn K mainGlobals "_law_parts" = some (some (.ref f45))) (l45 : K.lookup f45 = some ⟨oc45, od45, .func (PySem.W.fnOf "_law_parts" "_law_parts" (defArgs s_law_parts) (defBody s_law_parts) (defScope s_law_parts) .none kV45 dc45 pm45 an45 cd45 ct45), sl45⟩) (c45 : PySem.W.codeIn K cd45 "_law_parts" = true) (k45 : PySem.W.keepIn K (.ref f45) = true)
    (a48 : PySem.W.nsIn K mainGlobals "_law_is_connected" = some (some (.ref f48))) (l48 : K.lookup f48 = some ⟨oc48, od48, .func (PySem.W.fnOf "_law_is_connected" "_law_is_connected" (defArgs s_law_is_connected) (defBody s_law_is_connected) (defScope s_law_is_connected) .none kV48 dc48 pm48 an48 cd48 ct48), sl48⟩) (c48 : PySem.W.codeIn K cd48 "_law_is_connected" = true) (k48 : PySem.W.keepIn K (.ref f48) = true)
    (a38 : PySem.W.nsIn K mainGlobals "_law_inner" = some (some (.ref f38))) (l38 : K.lookup f38 = some ⟨oc38, od38, .func (PySem.W.fnOf "_law_inner" "_law_inner" (defArgs s_law_inner) (defBody s_law_inner) (defScope s_law_inner) .none kV38 dc38 pm38 an38 cd38 ct38), sl38⟩) (c38 : PySem.W.codeIn K cd38 "_law_inner" = true) (k38 : PySem.W.keepIn K (.ref f38) = true)
    (a39 : PySem.W.nsIn K mainGlobals "_law_plain" = some (some (.ref f39))) (l39 : K.lookup f39 = some ⟨oc39, od39, .func (PySem.W.fnOf "_law_plain" "_law_plain" (defArgs s_law_plain) (defBody s_law_plain) (defScope s_law_plain) .none kV39 dc39 pm39 an39 cd39 ct39), sl39⟩) (c39 : PySem.W.codeIn K cd39 "_law_plain" = true) (k39 : PySem.W.keepIn K (.ref f39) = true)
    (a56 : PySem.W.nsIn K mainGlobals "_law_product" = some (some (.ref f56))) (l56 : K.lookup f56 = some ⟨oc56, od56, .func (PySem.W.fnOf "_law_product" "_law_product" (defArgs s_law_product) (defBody s_law_product) (defScope s_law_product) .none kV56 dc56 pm56 an56 cd56 ct56), sl56⟩) (c56 : PySem.W.codeIn K cd56 "_law_product" = true) (k56 : PySem.W.keepIn K (.ref f56) = true)
    (a4 : PySem.W.nsIn K mainGlobals "is_integer" = some (some (.ref f4))) (l4 : K.lookup f4 = some ⟨oc4, od4, .func (PySem.W.fnOf "is_integer" "is_integer" (defArgs s_is_integer) (defBody s_is_integer) (defScope s_is_integer) .none kV4 dc4 pm4 an4 cd4 ct4), sl4⟩) (c4 : PySem.W.codeIn K cd4 "is_integer" = true) (k4 : PySem.W.keepIn K (.ref f4) = true)
    (a6 : PySem.W.nsIn K mainGlobals "is_permutation" = some (some (.ref f6))) (l6 : K.lookup f6 = some ⟨oc6, od6, .func (PySem.W.fnOf "is_permutation" "is_permutation" (defArgs s_is_permutation) (defBody s_is_permutation) (defScope s_is_permutation) .none kV6 dc6 pm6 an6 cd6 ct6), sl6⟩) (c6 : PySem.W.codeIn K cd6 "is_permutation" = true) (k6 : PySem.W.keepIn K (.ref f6) = true)
    (a17 : PySem.W.nsIn K mainGlobals "is_system" = some (some (.ref f17))) (l17 : K.lookup f17 = some ⟨oc17, od17, .func (PySem.W.fnOf "is_system" "is_system" (defArgs s_is_system) (defBody s_is_system) (defScope s_is_system) .none kV17 dc17 pm17 an17 cd17 ct17), sl17⟩) (c17 : PySem.W.codeIn K cd17 "is_system" = true) (k17 : PySem.W.keepIn K (.ref f17) = true)
    (a18 : PySem.W.nsIn K mainGlobals "check_system" = some (some (.ref f18))) (l18 : K.lookup f18 = some ⟨oc18, od18, .func (PySem.W.fnOf "check_system" "check_system" (defArgs s_check_system) (defBody s_check_system) (defScope s_check_system) .none kV18 dc18 pm18 an18 cd18 ct18), sl18⟩) (c18 : PySem.W.codeIn K cd18 "check_system" = true) (k18 : PySem.W.keepIn K (.ref f18) = true)
    (a7 : PySem.W.nsIn K mainGlobals "check_permutation" = some (some (.ref f7))) (l7 : K.lookup f7 = some ⟨oc7, od7, .func (PySem.W.fnOf "check_permutation" "check_permutation" (defArgs s_check_permutation) (defBody s_check_permutation) (defScope s_check_permutation) .none kV7 dc7 pm7 an7 cd7 ct7), sl7⟩) (c7 : PySem.W.codeIn K cd7 "check_permutation" = true) (k7 : PySem.W.keepIn K (.ref f7) = true)
    (a10 : PySem.W.nsIn K mainGlobals "rounds" = some (some (.ref f10))) (l10 : K.lookup f10 = some ⟨oc10, od10, .func (PySem.W.fnOf "rounds" "rounds" (defArgs s_rounds) (defBody s_rounds) (defScope s_rounds) .none kV10 dc10 pm10 an10 cd10 ct10), sl10⟩) (c10 : PySem.W.codeIn K cd10 "rounds" = true) (k10 : PySem.W.keepIn K (.ref f10) = true)
    (a11 : PySem.W.nsIn K mainGlobals "type_of" = some (some (.ref f11))) (l11 : K.lookup f11 = some ⟨oc11, od11, .func (PySem.W.fnOf "type_of" "type_of" (defArgs s_type_of) (defBody s_type_of) (defScope s_type_of) .none kV11 dc11 pm11 an11 cd11 ct11), sl11⟩) (c11 : PySem.W.codeIn K cd11 "type_of" = true) (k11 : PySem.W.keepIn K (.ref f11) = true)
    (a12 : PySem.W.nsIn K mainGlobals "cycle_type" = some (some (.ref f12))) (l12 : K.lookup f12 = some ⟨oc12, od12, .func (PySem.W.fnOf "cycle_type" "cycle_type" (defArgs s_cycle_type) (defBody s_cycle_type) (defScope s_cycle_type) .none kV12 dc12 pm12 an12 cd12 ct12), sl12⟩) (c12 : PySem.W.codeIn K cd12 "cycle_type" = true) (k12 : PySem.W.keepIn K (.ref f12) = true)
    (a30 : PySem.W.nsIn K mainGlobals "datum_of" = some (some (.ref f30))) (l30 : K.lookup f30 = some ⟨oc30, od30, .func (PySem.W.fnOf "datum_of" "datum_of" (defArgs s_datum_of) (defBody s_datum_of) (defScope s_datum_of) .none kV30 dc30 pm30 an30 cd30 ct30), sl30⟩) (c30 : PySem.W.codeIn K cd30 "datum_of" = true) (k30 : PySem.W.keepIn K (.ref f30) = true)
    (a24 : PySem.W.nsIn K mainGlobals "is_word" = some (some (.ref f24))) (l24 : K.lookup f24 = some ⟨oc24, od24, .func (PySem.W.fnOf "is_word" "is_word" (defArgs s_is_word) (defBody s_is_word) (defScope s_is_word) .none kV24 dc24 pm24 an24 cd24 ct24), sl24⟩) (c24 : PySem.W.codeIn K cd24 "is_word" = true) (k24 : PySem.W.keepIn K (.ref f24) = true)
    (a25 : PySem.W.nsIn K mainGlobals "check_word" = some (some (.ref f25))) (l25 : K.lookup f25 = some ⟨oc25, od25, .func (PySem.W.fnOf "check_word" "check_word" (defArgs s_check_word) (defBody s_check_word) (defScope s_check_word) .none kV25 dc25 pm25 an25 cd25 ct25), sl25⟩) (c25 : PySem.W.codeIn K cd25 "check_word" = true) (k25 : PySem.W.keepIn K (.ref f25) = true)
    (a8 : PySem.W.nsIn K mainGlobals "undone" = some (some (.ref f8))) (l8 : K.lookup f8 = some ⟨oc8, od8, .func (PySem.W.fnOf "undone" "undone" (defArgs s_undone) (defBody s_undone) (defScope s_undone) .none kV8 dc8 pm8 an8 cd8 ct8), sl8⟩) (c8 : PySem.W.codeIn K cd8 "undone" = true) (k8 : PySem.W.keepIn K (.ref f8) = true)
    (a9 : PySem.W.nsIn K mainGlobals "inverse_of" = some (some (.ref f9))) (l9 : K.lookup f9 = some ⟨oc9, od9, .func (PySem.W.fnOf "inverse_of" "inverse_of" (defArgs s_inverse_of) (defBody s_inverse_of) (defScope s_inverse_of) .none kV9 dc9 pm9 an9 cd9 ct9), sl9⟩) (c9 : PySem.W.codeIn K cd9 "inverse_of" = true) (k9 : PySem.W.keepIn K (.ref f9) = true)
    (a26 : PySem.W.nsIn K mainGlobals "letter_tables" = some (some (.ref f26))) (l26 : K.lookup f26 = some ⟨oc26, od26, .func (PySem.W.fnOf "letter_tables" "letter_tables" (defArgs s_letter_tables) (defBody s_letter_tables) (defScope s_letter_tables) .none kV26 dc26 pm26 an26 cd26 ct26), sl26⟩) (c26 : PySem.W.codeIn K cd26 "letter_tables" = true) (k26 : PySem.W.keepIn K (.ref f26) = true)
    (a27 : PySem.W.nsIn K mainGlobals "led_along" = some (some (.ref f27))) (l27 : K.lookup f27 = some ⟨oc27, od27, .func (PySem.W.fnOf "led_along" "led_along" (defArgs s_led_along) (defBody s_led_along) (defScope s_led_along) .none kV27 dc27 pm27 an27 cd27 ct27), sl27⟩) (c27 : PySem.W.codeIn K cd27 "led_along" = true) (k27 : PySem.W.keepIn K (.ref f27) = true)
    (a28 : PySem.W.nsIn K mainGlobals "word_permutation" = some (some (.ref f28))) (l28 : K.lookup f28 = some ⟨oc28, od28, .func (PySem.W.fnOf "word_permutation" "word_permutation" (defArgs s_word_permutation) (defBody s_word_permutation) (defScope s_word_permutation) .none kV28 dc28 pm28 an28 cd28 ct28), sl28⟩) (c28 : PySem.W.codeIn K cd28 "word_permutation" = true) (k28 : PySem.W.keepIn K (.ref f28) = true)
    (a52 : PySem.W.nsIn K mainGlobals "_law_letters" = some (some (.ref f52))) (l52 : K.lookup f52 = some ⟨oc52, od52, .func (PySem.W.fnOf "_law_letters" "_law_letters" (defArgs s_law_letters) (defBody s_law_letters) (defScope s_law_letters) .none kV52 dc52 pm52 an52 cd52 ct52), sl52⟩) (c52 : PySem.W.codeIn K cd52 "_law_letters" = true) (k52 : PySem.W.keepIn K (.ref f52) = true)
    (a57 : PySem.W.nsIn K mainGlobals "_law_word" = some (some (.ref f57))) (l57 : K.lookup f57 = some ⟨oc57, od57, .func (PySem.W.fnOf "_law_word" "_law_word" (defArgs s_law_word) (defBody s_law_word) (defScope s_law_word) .none kV57 dc57 pm57 an57 cd57 ct57), sl57⟩) (c57 : PySem.W.codeIn K cd57 "_law_word" = true) (k57 : PySem.W.keepIn K (.ref f57) = true)
    (a36 : PySem.W.nsIn K mainGlobals "told_system" = some (some (.ref f36))) (l36 : K.lookup f36 = some ⟨oc36, od36, .func (PySem.W.fnOf "told_system" "told_system" (defArgs s_told_system) (defBody s_told_system) (defScope s_told_system) .none kV36 dc36 pm36 an36 cd36 ct36), sl36⟩) (c36 : PySem.W.codeIn K cd36 "told_system" = true) (k36 : PySem.W.keepIn K (.ref f36) = true)
    (a21 : PySem.W.nsIn K mainGlobals "found_parts" = some (some (.ref f21))) (l21 : K.lookup f21 = some ⟨oc21, od21, .func (PySem.W.fnOf "found_parts" "found_parts" (defArgs s_found_parts) (defBody s_found_parts) (defScope s_found_parts) .none kV21 dc21 pm21 an21 cd21 ct21), sl21⟩) (c21 : PySem.W.codeIn K cd21 "found_parts" = true) (k21 : PySem.W.keepIn K (.ref f21) = true)
    (a29 : PySem.W.nsIn K mainGlobals "system_parts" = some (some (.ref f29))) (l29 : K.lookup f29 = some ⟨oc29, od29, .func (PySem.W.fnOf "system_parts" "system_parts" (defArgs s_system_parts) (defBody s_system_parts) (defScope s_system_parts) .none kV29 dc29 pm29 an29 cd29 ct29), sl29⟩) (c29 : PySem.W.codeIn K cd29 "system_parts" = true) (k29 : PySem.W.keepIn K (.ref f29) = true)
    (a46 : PySem.W.nsIn K mainGlobals "_law_cycles" = some (some (.ref f46))) (l46 : K.lookup f46 = some ⟨oc46, od46, .func (PySem.W.fnOf "_law_cycles" "_law_cycles" (defArgs s_law_cycles) (defBody s_law_cycles) (defScope s_law_cycles) .none kV46 dc46 pm46 an46 cd46 ct46), sl46⟩) (c46 : PySem.W.codeIn K cd46 "_law_cycles" = true) (k46 : PySem.W.keepIn K (.ref f46) = true)
    (a47 : PySem.W.nsIn K mainGlobals "_law_type" = some (some (.ref f47))) (l47 : K.lookup f47 = some ⟨oc47, od47, .func (PySem.W.fnOf "_law_type" "_law_type" (defArgs s_law_type) (defBody s_law_type) (defScope s_law_type) .none kV47 dc47 pm47 an47 cd47 ct47), sl47⟩) (c47 : PySem.W.codeIn K cd47 "_law_type" = true) (k47 : PySem.W.keepIn K (.ref f47) = true)
    (a49 : PySem.W.nsIn K mainGlobals "_law_renumbered" = some (some (.ref f49))) (l49 : K.lookup f49 = some ⟨oc49, od49, .func (PySem.W.fnOf "_law_renumbered" "_law_renumbered" (defArgs s_law_renumbered) (defBody s_law_renumbered) (defScope s_law_renumbered) .none kV49 dc49 pm49 an49 cd49 ct49), sl49⟩) (c49 : PySem.W.codeIn K cd49 "_law_renumbered" = true) (k49 : PySem.W.keepIn K (.ref f49) = true)
    (a50 : PySem.W.nsIn K mainGlobals "_law_turned_system" = some (some (.ref f50))) (l50 : K.lookup f50 = some ⟨oc50, od50, .func (PySem.W.fnOf "_law_turned_system" "_law_turned_system" (defArgs s_law_turned_system) (defBody s_law_turned_system) (defScope s_law_turned_system) .none kV50 dc50 pm50 an50 cd50 ct50), sl50⟩) (c50 : PySem.W.codeIn K cd50 "_law_turned_system" = true) (k50 : PySem.W.keepIn K (.ref f50) = true)
    (a51 : PySem.W.nsIn K mainGlobals "_law_numbered" = some (some (.ref f51))) (l51 : K.lookup f51 = some ⟨oc51, od51, .func (PySem.W.fnOf "_law_numbered" "_law_numbered" (defArgs s_law_numbered) (defBody s_law_numbered) (defScope s_law_numbered) .none kV51 dc51 pm51 an51 cd51 ct51), sl51⟩) (c51 : PySem.W.codeIn K cd51 "_law_numbered" = true) (k51 : PySem.W.keepIn K (.ref f51) = true)
    (a53 : PySem.W.nsIn K mainGlobals "_law_step" = some (some (.ref f53))) (l53 : K.lookup f53 = some ⟨oc53, od53, .func (PySem.W.fnOf "_law_step" "_law_step" (defArgs s_law_step) (defBody s_law_step) (defScope s_law_step) .none kV53 dc53 pm53 an53 cd53 ct53), sl53⟩) (c53 : PySem.W.codeIn K cd53 "_law_step" = true) (k53 : PySem.W.keepIn K (.ref f53) = true)
    (a54 : PySem.W.nsIn K mainGlobals "_law_leading" = some (some (.ref f54))) (l54 : K.lookup f54 = some ⟨oc54, od54, .func (PySem.W.fnOf "_law_leading" "_law_leading" (defArgs s_law_leading) (defBody s_law_leading) (defScope s_law_leading) .none kV54 dc54 pm54 an54 cd54 ct54), sl54⟩) (c54 : PySem.W.codeIn K cd54 "_law_leading" = true) (k54 : PySem.W.keepIn K (.ref f54) = true)
    (a55 : PySem.W.nsIn K mainGlobals "_law_least" = some (some (.ref f55))) (l55 : K.lookup f55 = some ⟨oc55, od55, .func (PySem.W.fnOf "_law_least" "_law_least" (defArgs s_law_least) (defBody s_law_least) (defScope s_law_least) .none kV55 dc55 pm55 an55 cd55 ct55), sl55⟩) (c55 : PySem.W.codeIn K cd55 "_law_least" = true) (k55 : PySem.W.keepIn K (.ref f55) = true)
    (a22 : PySem.W.nsIn K mainGlobals "has_one_part" = some (some (.ref f22))) (l22 : K.lookup f22 = some ⟨oc22, od22, .func (PySem.W.fnOf "has_one_part" "has_one_part" (defArgs s_has_one_part) (defBody s_has_one_part) (defScope s_has_one_part) .none kV22 dc22 pm22 an22 cd22 ct22), sl22⟩) (c22 : PySem.W.codeIn K cd22 "has_one_part" = true) (k22 : PySem.W.keepIn K (.ref f22) = true)
    (a23 : PySem.W.nsIn K mainGlobals "check_connected" = some (some (.ref f23))) (l23 : K.lookup f23 = some ⟨oc23, od23, .func (PySem.W.fnOf "check_connected" "check_connected" (defArgs s_check_connected) (defBody s_check_connected) (defScope s_check_connected) .none kV23 dc23 pm23 an23 cd23 ct23), sl23⟩) (c23 : PySem.W.codeIn K cd23 "check_connected" = true) (k23 : PySem.W.keepIn K (.ref f23) = true)
    (a19 : PySem.W.nsIn K mainGlobals "is_sheet" = some (some (.ref f19))) (l19 : K.lookup f19 = some ⟨oc19, od19, .func (PySem.W.fnOf "is_sheet" "is_sheet" (defArgs s_is_sheet) (defBody s_is_sheet) (defScope s_is_sheet) .none kV19 dc19 pm19 an19 cd19 ct19), sl19⟩) (c19 : PySem.W.codeIn K cd19 "is_sheet" = true) (k19 : PySem.W.keepIn K (.ref f19) = true)
    (a20 : PySem.W.nsIn K mainGlobals "check_sheet" = some (some (.ref f20))) (l20 : K.lookup f20 = some ⟨oc20, od20, .func (PySem.W.fnOf "check_sheet" "check_sheet" (defArgs s_check_sheet) (defBody s_check_sheet) (defScope s_check_sheet) .none kV20 dc20 pm20 an20 cd20 ct20), sl20⟩) (c20 : PySem.W.codeIn K cd20 "check_sheet" = true) (k20 : PySem.W.keepIn K (.ref f20) = true)
    (a31 : PySem.W.nsIn K mainGlobals "counted_from" = some (some (.ref f31))) (l31 : K.lookup f31 = some ⟨oc31, od31, .func (PySem.W.fnOf "counted_from" "counted_from" (defArgs s_counted_from) (defBody s_counted_from) (defScope s_counted_from) .none kV31 dc31 pm31 an31 cd31 ct31), sl31⟩) (c31 : PySem.W.codeIn K cd31 "counted_from" = true) (k31 : PySem.W.keepIn K (.ref f31) = true)
    (a32 : PySem.W.nsIn K mainGlobals "numbered_from" = some (some (.ref f32))) (l32 : K.lookup f32 = some ⟨oc32, od32, .func (PySem.W.fnOf "numbered_from" "numbered_from" (defArgs s_numbered_from) (defBody s_numbered_from) (defScope s_numbered_from) .none kV32 dc32 pm32 an32 cd32 ct32), sl32⟩) (c32 : PySem.W.codeIn K cd32 "numbered_from" = true) (k32 : PySem.W.keepIn K (.ref f32) = true)
    (a34 : PySem.W.nsIn K mainGlobals "words_from" = some (some (.ref f34))) (l34 : K.lookup f34 = some ⟨oc34, od34, .func (PySem.W.fnOf "words_from" "words_from" (defArgs s_words_from) (defBody s_words_from) (defScope s_words_from) .none kV34 dc34 pm34 an34 cd34 ct34), sl34⟩) (c34 : PySem.W.codeIn K cd34 "words_from" = true) (k34 : PySem.W.keepIn K (.ref f34) = true)
    (a35 : PySem.W.nsIn K mainGlobals "leading_words" = some (some (.ref f35))) (l35 : K.lookup f35 = some ⟨oc35, od35, .func (PySem.W.fnOf "leading_words" "leading_words" (defArgs s_leading_words) (defBody s_leading_words) (defScope s_leading_words) .none kV35 dc35 pm35 an35 cd35 ct35), sl35⟩) (c35 : PySem.W.codeIn K cd35 "leading_words" = true) (k35 : PySem.W.keepIn K (.ref f35) = true)
    (a33 : PySem.W.nsIn K mainGlobals "least_system" = some (some (.ref f33))) (l33 : K.lookup f33 = some ⟨oc33, od33, .func (PySem.W.fnOf "least_system" "least_system" (defArgs s_least_system) (defBody s_least_system) (defScope s_least_system) .none kV33 dc33 pm33 an33 cd33 ct33), sl33⟩) (c33 : PySem.W.codeIn K cd33 "least_system" = true) (k33 : PySem.W.keepIn K (.ref f33) = true)
    (a58 : PySem.W.nsIn K mainGlobals "_law_walk" = some (some (.ref f58))) (l58 : K.lookup f58 = some ⟨oc58, od58, .func (PySem.W.fnOf "_law_walk" "_law_walk" (defArgs s_law_walk) (defBody s_law_walk) (defScope s_law_walk) .none kV58 dc58 pm58 an58 cd58 ct58), sl58⟩) (c58 : PySem.W.codeIn K cd58 "_law_walk" = true) (k58 : PySem.W.keepIn K (.ref f58) = true)
    (a59 : PySem.W.nsIn K mainGlobals "law" = some (some (.ref f59))) (l59 : K.lookup f59 = some ⟨oc59, od59, .func (PySem.W.fnOf "law" "law" (defArgs s_law) (defBody s_law) (defScope s_law) .none kV59 dc59 pm59 an59 cd59 ct59), sl59⟩) (c59 : PySem.W.codeIn K cd59 "law" = true) (k59 : PySem.W.keepIn K (.ref f59) = true)
    (z_abs : PySem.W.nsIn K mainGlobals "abs" = some none)
    (z_all : PySem.W.nsIn K mainGlobals "all" = some none)
    (z_bool : PySem.W.nsIn K mainGlobals "bool" = some none)
    (z_enumerate : PySem.W.nsIn K mainGlobals "enumerate" = some none)
    (z_int : PySem.W.nsIn K mainGlobals "int" = some none)
    (z_isinstance : PySem.W.nsIn K mainGlobals "isinstance" = some none)
    (z_len : PySem.W.nsIn K mainGlobals "len" = some none)
    (z_list : PySem.W.nsIn K mainGlobals "list" = some none)
    (z_min : PySem.W.nsIn K mainGlobals "min" = some none)
    (z_range : PySem.W.nsIn K mainGlobals "range" = some none)
    (z_sorted : PySem.W.nsIn K mainGlobals "sorted" = some none)
    (z_str : PySem.W.nsIn K mainGlobals "str" = some none)
    (z_tuple : PySem.W.nsIn K mainGlobals "tuple" = some none)
    (c_MOST_LETTERS : PySem.W.nsIn K mainGlobals "MOST_LETTERS" = some (some (.int 2000 t_MOST_LETTERS)))
    (c_MOST_RANK : PySem.W.nsIn K mainGlobals "MOST_RANK" = some (some (.int 12 t_MOST_RANK)))
    (c_MOST_SHEETS : PySem.W.nsIn K mainGlobals "MOST_SHEETS" = some (some (.int 24 t_MOST_SHEETS)))
    (a2 : PySem.W.nsIn K mainGlobals "Malformed" = some (some (.ref f2))) (q2 : PySem.W.excIn K f2 [.type "ValueError", .type "Exception", .type "BaseException", .type "object"] "ValueError.__new__" = true) (k2 : PySem.W.keepIn K (.ref f2) = true) (b2 : PySem.W.subIn K (.ref f2) (.type "BaseException") = some true) (t2 : PySem.W.typeIn K (.ref f2) = some (.type "type"))
    (h_law : ∀ (A : Nat → Addr), ∀ ns : List Int, ns.length ≤ 63 → ∃ st', S_law A [.lst (ns.map D.int)] [] = .ok (.bl true) st') :
    ∃ fd : FuncData, (∀ (s : Shared) (v : Value), BindsTo s fd ⟨[v], []⟩ [("script", v)]) ∧ ∀ base : Heap, K.In base → base.Ns mainGlobals mg → FnOk l.prog w K mg base (L2.CX l.prog w) 8 fa fd ["script"] (spLaw K) := by
  have e := hfa.symm.trans (PySem.W.mg_of X G a59)
  cases e
  have T : Txt K mg (fun i => ([0, 0, f2, 0, f4, 0, f6, f7, f8, f9, f10, f11, f12, 0, 0, 0, 0, f17, f18, f19, f20, f21, f22, f23, f24, f25, f26, f27, f28, f29, f30, f31, f32, f33, f34, f35, f36, 0, f38, f39, f40, f41, f42, f43, f44, f45, f46, f47, f48, f49, f50, f51, f52, f53, f54, f55, f56, f57, f58, fa] : List Addr).getD i 0) (fun i => ([(PySem.W.fnOf "law" "law" (defArgs s_law) (defBody s_law) (defScope s_law) .none kV59 dc59 pm59 an59 cd59 ct59), (PySem.W.fnOf "law" "law" (defArgs s_law) (defBody s_law) (defScope s_law) .none kV59 dc59 pm59 an59 cd59 ct59), (PySem.W.fnOf "law" "law" (defArgs s_law) (defBody s_law) (defScope s_law) .none kV59 dc59 pm59 an59 cd59 ct59), (PySem.W.fnOf "law" "law" (defArgs s_law) (defBody s_law) (defScope s_law) .none kV59 dc59 pm59 an59 cd59 ct59), (PySem.W.fnOf "is_integer" "is_integer" (defArgs s_is_integer) (defBody s_is_integer) (defScope s_is_integer) .none kV4 dc4 pm4 an4 cd4 ct4), (PySem.W.fnOf "law" "law" (defArgs s_law) (defBody s_law) (defScope s_law) .none kV59 dc59 pm59 an59 cd59 ct59), (PySem.W.fnOf "is_permutation" "is_permutation" (defArgs s_is_permutation) (defBody s_is_permutation) (defScope s_is_permutation) .none kV6 dc6 pm6 an6 cd6 ct6), (PySem.W.fnOf "check_permutation" "check_permutation" (defArgs s_check_permutation) (defBody s_check_permutation) (defScope s_check_permutation) .none kV7 dc7 pm7 an7 cd7 ct7), (PySem.W.fnOf "undone" "undone" (defArgs s_undone) (defBody s_undone) (defScope s_undone) .none kV8 dc8 pm8 an8 cd8 ct8), (PySem.W.fnOf "inverse_of" "inverse_of" (defArgs s_inverse_of) (defBody s_inverse_of) (defScope s_inverse_of) .none kV9 dc9 pm9 an9 cd9 ct9), (PySem.W.fnOf "rounds" "rounds" (defArgs s_rounds) (defBody s_rounds) (defScope s_rounds) .none kV10 dc10 pm10 an10 cd10 ct10), (PySem.W.fnOf "type_of" "type_of" (defArgs s_type_of) (defBody s_type_of) (defScope s_type_of) .none kV11 dc11 pm11 an11 cd11 ct11), (PySem.W.fnOf "cycle_type" "cycle_type" (defArgs s_cycle_type) (defBody s_cycle_type) (defScope s_cycle_type) .none kV12 dc12 pm12 an12 cd12 ct12), (PySem.W.fnOf "law" "law" (defArgs s_law) (defBody s_law) (defScope s_law) .none kV59 dc59 pm59 an59 cd59 ct59), (PySem.W.fnOf "law" "law" (defArgs s_law) (defBody s_law) (defScope s_law) .none kV59 dc59 pm59 an59 cd59 ct59), (PySem.W.fnOf "law" "law" (defArgs s_law) (defBody s_law) (defScope s_law) .none kV59 dc59 pm59 an59 cd59 ct59), (PySem.W.fnOf "law" "law" (defArgs s_law) (defBody s_law) (defScope s_law) .none kV59 dc59 pm59 an59 cd59 ct59), (PySem.W.fnOf "is_system" "is_system" (defArgs s_is_system) (defBody s_is_system) (defScope s_is_system) .none kV17 dc17 pm17 an17 cd17 ct17), (PySem.W.fnOf "check_system" "check_system" (defArgs s_check_system) (defBody s_check_system) (defScope s_check_system) .none kV18 dc18 pm18 an18 cd18 ct18), (PySem.W.fnOf "is_sheet" "is_sheet" (defArgs s_is_sheet) (defBody s_is_sheet) (defScope s_is_sheet) .none kV19 dc19 pm19 an19 cd19 ct19), (PySem.W.fnOf "check_sheet" "check_sheet" (defArgs s_check_sheet) (defBody s_check_sheet) (defScope s_check_sheet) .none kV20 dc20 pm20 an20 cd20 ct20), (PySem.W.fnOf "found_parts" "found_parts" (defArgs s_found_parts) (defBody s_found_parts) (defScope s_found_parts) .none kV21 dc21 pm21 an21 cd21 ct21), (PySem.W.fnOf "has_one_part" "has_one_part" (defArgs s_has_one_part) (defBody s_has_one_part) (defScope s_has_one_part) .none kV22 dc22 pm22 an22 cd22 ct22), (PySem.W.fnOf "check_connected" "check_connected" (defArgs s_check_connected) (defBody s_check_connected) (defScope s_check_connected) .none kV23 dc23 pm23 an23 cd23 ct23), (PySem.W.fnOf "is_word" "is_word" (defArgs s_is_word) (defBody s_is_word) (defScope s_is_word) .none kV24 dc24 pm24 an24 cd24 ct24), (PySem.W.fnOf "check_word" "check_word" (defArgs s_check_word) (defBody s_check_word) (defScope s_check_word) .none kV25 dc25 pm25 an25 cd25 ct25), (PySem.W.fnOf "letter_tables" "letter_tables" (defArgs s_letter_tables) (defBody s_letter_tables) (defScope s_letter_tables) .none kV26 dc26 pm26 an26 cd26 ct26), (PySem.W.fnOf "led_along" "led_along" (defArgs s_led_along) (defBody s_led_along) (defScope s_led_along) .none kV27 dc27 pm27 an27 cd27 ct27), (PySem.W.fnOf "word_permutation" "word_permutation" (defArgs s_word_permutation) (defBody s_word_permutation) (defScope s_word_permutation) .none kV28 dc28 pm28 an28 cd28 ct28), (PySem.W.fnOf "system_parts" "system_parts" (defArgs s_system_parts) (defBody s_system_parts) (defScope s_system_parts) .none kV29 dc29 pm29 an29 cd29 ct29), (PySem.W.fnOf "datum_of" "datum_of" (defArgs s_datum_of) (defBody s_datum_of) (defScope s_datum_of) .none kV30 dc30 pm30 an30 cd30 ct30), (PySem.W.fnOf "counted_from" "counted_from" (defArgs s_counted_from) (defBody s_counted_from) (defScope s_counted_from) .none kV31 dc31 pm31 an31 cd31 ct31), (PySem.W.fnOf "numbered_from" "numbered_from" (defArgs s_numbered_from) (defBody s_numbered_from) (defScope s_numbered_from) .none kV32 dc32 pm32 an32 cd32 ct32), (PySem.W.fnOf "least_system" "least_system" (defArgs s_least_system) (defBody s_least_system) (defScope s_least_system) .none kV33 dc33 pm33 an33 cd33 ct33), (PySem.W.fnOf "words_from" "words_from" (defArgs s_words_from) (defBody s_words_from) (defScope s_words_from) .none kV34 dc34 pm34 an34 cd34 ct34), (PySem.W.fnOf "leading_words" "leading_words" (defArgs s_leading_words) (defBody s_leading_words) (defScope s_leading_words) .none kV35 dc35 pm35 an35 cd35 ct35), (PySem.W.fnOf "told_system" "told_system" (defArgs s_told_system) (defBody s_told_system) (defScope s_told_system) .none kV36 dc36 pm36 an36 cd36 ct36), (PySem.W.fnOf "law" "law" (defArgs s_law) (defBody s_law) (defScope s_law) .none kV59 dc59 pm59 an59 cd59 ct59), (PySem.W.fnOf "_law_inner" "_law_inner" (defArgs s_law_inner) (defBody s_law_inner) (defScope s_law_inner) .none kV38 dc38 pm38 an38 cd38 ct38), (PySem.W.fnOf "_law_plain" "_law_plain" (defArgs s_law_plain) (defBody s_law_plain) (defScope s_law_plain) .none kV39 dc39 pm39 an39 cd39 ct39), (PySem.W.fnOf "_law_state" "_law_state" (defArgs s_law_state) (defBody s_law_state) (defScope s_law_state) .none kV40 dc40 pm40 an40 cd40 ct40), (PySem.W.fnOf "_law_take" "_law_take" (defArgs s_law_take) (defBody s_law_take) (defScope s_law_take) .none kV41 dc41 pm41 an41 cd41 ct41), (PySem.W.fnOf "_law_inverse" "_law_inverse" (defArgs s_law_inverse) (defBody s_law_inverse) (defScope s_law_inverse) .none kV42 dc42 pm42 an42 cd42 ct42), (PySem.W.fnOf "_law_permutation" "_law_permutation" (defArgs s_law_permutation) (defBody s_law_permutation) (defScope s_law_permutation) .none kV43 dc43 pm43 an43 cd43 ct43), (PySem.W.fnOf "_law_system" "_law_system" (defArgs s_law_system) (defBody s_law_system) (defScope s_law_system) .none kV44 dc44 pm44 an44 cd44 ct44), (PySem.W.fnOf "_law_parts" "_law_parts" (defArgs s_law_parts) (defBody s_law_parts) (defScope s_law_parts) .none kV45 dc45 pm45 an45 cd45 ct45), (PySem.W.fnOf "_law_cycles" "_law_cycles" (defArgs s_law_cycles) (defBody s_law_cycles) (defScope s_law_cycles) .none kV46 dc46 pm46 an46 cd46 ct46), (PySem.W.fnOf "_law_type" "_law_type" (defArgs s_law_type) (defBody s_law_type) (defScope s_law_type) .none kV47 dc47 pm47 an47 cd47 ct47), (PySem.W.fnOf "_law_is_connected" "_law_is_connected" (defArgs s_law_is_connected) (defBody s_law_is_connected) (defScope s_law_is_connected) .none kV48 dc48 pm48 an48 cd48 ct48), (PySem.W.fnOf "_law_renumbered" "_law_renumbered" (defArgs s_law_renumbered) (defBody s_law_renumbered) (defScope s_law_renumbered) .none kV49 dc49 pm49 an49 cd49 ct49), (PySem.W.fnOf "_law_turned_system" "_law_turned_system" (defArgs s_law_turned_system) (defBody s_law_turned_system) (defScope s_law_turned_system) .none kV50 dc50 pm50 an50 cd50 ct50), (PySem.W.fnOf "_law_numbered" "_law_numbered" (defArgs s_law_numbered) (defBody s_law_numbered) (defScope s_law_numbered) .none kV51 dc51 pm51 an51 cd51 ct51), (PySem.W.fnOf "_law_letters" "_law_letters" (defArgs s_law_letters) (defBody s_law_letters) (defScope s_law_letters) .none kV52 dc52 pm52 an52 cd52 ct52), (PySem.W.fnOf "_law_step" "_law_step" (defArgs s_law_step) (defBody s_law_step) (defScope s_law_step) .none kV53 dc53 pm53 an53 cd53 ct53), (PySem.W.fnOf "_law_leading" "_law_leading" (defArgs s_law_leading) (defBody s_law_leading) (defScope s_law_leading) .none kV54 dc54 pm54 an54 cd54 ct54), (PySem.W.fnOf "_law_least" "_law_least" (defArgs s_law_least) (defBody s_law_least) (defScope s_law_least) .none kV55 dc55 pm55 an55 cd55 ct55), (PySem.W.fnOf "_law_product" "_law_product" (defArgs s_law_product) (defBody s_law_product) (defScope s_law_product) .none kV56 dc56 pm56 an56 cd56 ct56), (PySem.W.fnOf "_law_word" "_law_word" (defArgs s_law_word) (defBody s_law_word) (defScope s_law_word) .none kV57 dc57 pm57 an57 cd57 ct57), (PySem.W.fnOf "_law_walk" "_law_walk" (defArgs s_law_walk) (defBody s_law_walk) (defScope s_law_walk) .none kV58 dc58 pm58 an58 cd58 ct58), (PySem.W.fnOf "law" "law" (defArgs s_law) (defBody s_law) (defScope s_law) .none kV59 dc59 pm59 an59 cd59 ct59)] : List FuncData).getD i (PySem.W.fnOf "law" "law" (defArgs s_law) (defBody s_law) (defScope s_law) .none kV59 dc59 pm59 an59 cd59 ct59)) :=
    { m_law_state := PySem.W.mg_of X G a40,
      F_law_state := fun_mk (st := s_law_state) l40 c40 k40,
      m_law_take := PySem.W.mg_of X G a41,
      F_law_take := fun_mk (st := s_law_take) l41 c41 k41,
      m_law_inverse := PySem.W.mg_of X G a42,
      F_law_inverse := fun_mk (st := s_law_inverse) l42 c42 k42,
      m_law_permutation := PySem.W.mg_of X G a43,
      F_law_permutation := fun_mk (st := s_law_permutation) l43 c43 k43,
      m_law_system := PySem.W.mg_of X G a44,
      F_law_system := fun_mk (st := s_law_system) l44 c44 k44,
      m_law_parts := PySem.W.mg_of X G a45,
      F_law_parts := fun_mk (st := s_law_parts) l45 c45 k45,
      m_law_is_connected := PySem.W.mg_of X G a48,
      F_law_is_connected := fun_mk (st := s_law_is_connected) l48 c48 k48,
      m_law_inner := PySem.W.mg_of X G a38,
      F_law_inner := fun_mk (st := s_law_inner) l38 c38 k38,
      m_law_plain := PySem.W.mg_of X G a39,
      F_law_plain := fun_mk (st := s_law_plain) l39 c39 k39,
      m_law_product := PySem.W.mg_of X G a56,
      F_law_product := fun_mk (st := s_law_product) l56 c56 k56,
      m_is_integer := PySem.W.mg_of X G a4,
      F_is_integer := fun_mk (st := s_is_integer) l4 c4 k4,
      m_is_permutation := PySem.W.mg_of X G a6,
      F_is_permutation := fun_mk (st := s_is_permutation) l6 c6 k6,
      m_is_system := PySem.W.mg_of X G a17,
      F_is_system := fun_mk (st := s_is_system) l17 c17 k17,
      m_check_system := PySem.W.mg_of X G a18,
      F_check_system := fun_mk (st := s_check_system) l18 c18 k18,
      m_check_permutation := PySem.W.mg_of X G a7,
      F_check_permutation := fun_mk (st := s_check_permutation) l7 c7 k7,
      m_rounds := PySem.W.mg_of X G a10,
      F_rounds := fun_mk (st := s_rounds) l10 c10 k10,
      m_type_of := PySem.W.mg_of X G a11,
      F_type_of := fun_mk (st := s_type_of) l11 c11 k11,
      m_cycle_type := PySem.W.mg_of X G a12,
      F_cycle_type := fun_mk (st := s_cycle_type) l12 c12 k12,
      m_datum_of := PySem.W.mg_of X G a30,
      F_datum_of := fun_mk (st := s_datum_of) l30 c30 k30,
      m_is_word := PySem.W.mg_of X G a24,
      F_is_word := fun_mk (st := s_is_word) l24 c24 k24,
      m_check_word := PySem.W.mg_of X G a25,
      F_check_word := fun_mk (st := s_check_word) l25 c25 k25,
      m_undone := PySem.W.mg_of X G a8,
      F_undone := fun_mk (st := s_undone) l8 c8 k8,
      m_inverse_of := PySem.W.mg_of X G a9,
      F_inverse_of := fun_mk (st := s_inverse_of) l9 c9 k9,
      m_letter_tables := PySem.W.mg_of X G a26,
      F_letter_tables := fun_mk (st := s_letter_tables) l26 c26 k26,
      m_led_along := PySem.W.mg_of X G a27,
      F_led_along := fun_mk (st := s_led_along) l27 c27 k27,
      m_word_permutation := PySem.W.mg_of X G a28,
      F_word_permutation := fun_mk (st := s_word_permutation) l28 c28 k28,
      m_law_letters := PySem.W.mg_of X G a52,
      F_law_letters := fun_mk (st := s_law_letters) l52 c52 k52,
      m_law_word := PySem.W.mg_of X G a57,
      F_law_word := fun_mk (st := s_law_word) l57 c57 k57,
      m_told_system := PySem.W.mg_of X G a36,
      F_told_system := fun_mk (st := s_told_system) l36 c36 k36,
      m_found_parts := PySem.W.mg_of X G a21,
      F_found_parts := fun_mk (st := s_found_parts) l21 c21 k21,
      m_system_parts := PySem.W.mg_of X G a29,
      F_system_parts := fun_mk (st := s_system_parts) l29 c29 k29,
      m_law_cycles := PySem.W.mg_of X G a46,
      F_law_cycles := fun_mk (st := s_law_cycles) l46 c46 k46,
      m_law_type := PySem.W.mg_of X G a47,
      F_law_type := fun_mk (st := s_law_type) l47 c47 k47,
      m_law_renumbered := PySem.W.mg_of X G a49,
      F_law_renumbered := fun_mk (st := s_law_renumbered) l49 c49 k49,
      m_law_turned_system := PySem.W.mg_of X G a50,
      F_law_turned_system := fun_mk (st := s_law_turned_system) l50 c50 k50,
      m_law_numbered := PySem.W.mg_of X G a51,
      F_law_numbered := fun_mk (st := s_law_numbered) l51 c51 k51,
      m_law_step := PySem.W.mg_of X G a53,
      F_law_step := fun_mk (st := s_law_step) l53 c53 k53,
      m_law_leading := PySem.W.mg_of X G a54,
      F_law_leading := fun_mk (st := s_law_leading) l54 c54 k54,
      m_law_least := PySem.W.mg_of X G a55,
      F_law_least := fun_mk (st := s_law_least) l55 c55 k55,
      m_has_one_part := PySem.W.mg_of X G a22,
      F_has_one_part := fun_mk (st := s_has_one_part) l22 c22 k22,
      m_check_connected := PySem.W.mg_of X G a23,
      F_check_connected := fun_mk (st := s_check_connected) l23 c23 k23,
      m_is_sheet := PySem.W.mg_of X G a19,
      F_is_sheet := fun_mk (st := s_is_sheet) l19 c19 k19,
      m_check_sheet := PySem.W.mg_of X G a20,
      F_check_sheet := fun_mk (st := s_check_sheet) l20 c20 k20,
      m_counted_from := PySem.W.mg_of X G a31,
      F_counted_from := fun_mk (st := s_counted_from) l31 c31 k31,
      m_numbered_from := PySem.W.mg_of X G a32,
      F_numbered_from := fun_mk (st := s_numbered_from) l32 c32 k32,
      m_words_from := PySem.W.mg_of X G a34,
      F_words_from := fun_mk (st := s_words_from) l34 c34 k34,
      m_leading_words := PySem.W.mg_of X G a35,
      F_leading_words := fun_mk (st := s_leading_words) l35 c35 k35,
      m_least_system := PySem.W.mg_of X G a33,
      F_least_system := fun_mk (st := s_least_system) l33 c33 k33,
      m_law_walk := PySem.W.mg_of X G a58,
      F_law_walk := fun_mk (st := s_law_walk) l58 c58 k58,
      m_law := PySem.W.mg_of X G a59,
      F_law := fun_mk (st := s_law) l59 c59 k59,
      z_abs := PySem.W.mg_none_of X G z_abs,
      z_all := PySem.W.mg_none_of X G z_all,
      z_bool := PySem.W.mg_none_of X G z_bool,
      z_enumerate := PySem.W.mg_none_of X G z_enumerate,
      z_int := PySem.W.mg_none_of X G z_int,
      z_isinstance := PySem.W.mg_none_of X G z_isinstance,
      z_len := PySem.W.mg_none_of X G z_len,
      z_list := PySem.W.mg_none_of X G z_list,
      z_min := PySem.W.mg_none_of X G z_min,
      z_range := PySem.W.mg_none_of X G z_range,
      z_sorted := PySem.W.mg_none_of X G z_sorted,
      z_str := PySem.W.mg_none_of X G z_str,
      z_tuple := PySem.W.mg_none_of X G z_tuple,
      c_MOST_LETTERS := ⟨_, PySem.W.mg_of X G c_MOST_LETTERS⟩,
      c_MOST_RANK := ⟨_, PySem.W.mg_of X G c_MOST_RANK⟩,
      c_MOST_SHEETS := ⟨_, PySem.W.mg_of X G c_MOST_SHEETS⟩,
      m_Malformed := PySem.W.mg_of X G a2,
      q_Malformed := q2,
      k_Malformed := k2,
      b_Malformed := b2,
      t_Malformed := t2 }
  exact ⟨(PySem.W.fnOf "law" "law" (defArgs s_law) (defBody s_law) (defScope s_law) .none kV59 dc59 pm59 an59 cd59 ct59), fun s v => .of_eq rfl, fun base _ _ => law_imp (d_law T) (h_law _)⟩
end K25

set_option Elab.async false
set_option linter.all false
set_option maxRecDepth 100000
set_option maxHeartbeats 4000000
namespace K25
open PySem L2 Fx
variable {A : Nat → Addr} {d : Nat}
theorem is_integer_eq {x : D} {st : Store} (h : pl x = true) : S_is_integer A [x] st = .ok (.bl (isI x)) st := by
  rw [S_is_integer_eq]
  refine gc_ok [] (runF_rt ?_) (by simp [WfD])
  cases x <;> simp_all [m_is_integer, pl, isI, N_is_integer]
theorem is_permutation_eq {x : D} {st : Store} (h : pl x = true) (hx : ∀ xs, x = .tup xs → (∀ y ∈ xs, pl y = true) ∧ xs.length < sizeLine) : S_is_permutation A [x] st = .ok (.bl (isP x)) st := by
  cases x with
  | tup xs =>
    obtain ⟨h1, h2⟩ := hx xs rfl
    have key := forS_ret (g := gN 2) (b := B_is_permutation_0 A)
      (P := fun ds τ st' => ∃ seen τ2, τ = [some (.tup xs), some (.loc st.length), τ2] ∧ st' = st ++ [.dk (kvI seen)] ∧ (∀ y ∈ ds, pl y = true) ∧ seen.length + ds.length < sizeLine ∧ permL xs.length seen ds = permL xs.length [] xs)
      (Q := fun d st' => ∃ g, d = .bl false ∧ st' = st ++ g ∧ permL xs.length [] xs = false)
      (fun y ys τ st' ⟨seen, τ2, e1, e2, hp, hl, hq⟩ => by
        subst e1 e2
        refine ⟨_, rfl, ?_⟩
        have hy := hp y List.mem_cons_self
        cases y with
        | int i =>
          have q : fDIn true (.int i) (.loc st.length) (st ++ [.dk (kvI seen)]) = .ok (.bl (decide (i ∈ seen))) (st ++ [.dk (kvI seen)]) := fDIn_dk (by simp)
          by_cases c : i < 0 ∨ (xs.length : Int) ≤ i ∨ i ∈ seen
          · rw [permL, if_pos c] at hq
            refine .inr ⟨.bl false, _, ?_, [.dk (kvI seen)], rfl, rfl, hq.symm⟩
            by_cases c1 : i < 0
            · simp [b_is_permutation_0, is_integer_eq hy, isI, c1]
            · by_cases c2 : (xs.length : Int) ≤ i
              · simp [b_is_permutation_0, is_integer_eq hy, isI, c1, c2]
              · have c3 : i ∈ seen := (c.resolve_left c1).resolve_left c2
                simp [b_is_permutation_0, is_integer_eq hy, isI, c1, c2, q, c3]
          · have c1 : ¬ i < 0 := by omega
            have c2 : ¬ (xs.length : Int) ≤ i := by omega
            have c3 : i ∉ seen := fun z => c (.inr (.inr z))
            rw [permL, if_neg c] at hq
            have q2 : fSetD (.loc st.length) (.int i) (.bl true) (st ++ [.dk (kvI seen)]) = some (st ++ [.dk (kvI (seen ++ [i]))]) := by
              rw [fSetD_dk (by simp) c3 (by simp only [List.length_cons] at hl; omega)]; simp
            refine .inl ⟨_, _, .inl ?_, seen ++ [i], some (.int i), rfl, rfl, fun y hy => hp y (List.mem_cons_of_mem _ hy), by simp only [List.length_cons, List.length_append, List.length_nil] at hl ⊢; omega, hq⟩
            simp [b_is_permutation_0, is_integer_eq hy, isI, c1, c2, q, c3, q2]
        | _ =>
          refine .inr ⟨.bl false, _, ?_, [.dk (kvI seen)], rfl, rfl, ?_⟩
          all_goals first
          | (simp [pl] at hy; done)
          | (simp [b_is_permutation_0, is_integer_eq hy, isI]; done)
          | (rw [← hq]; simp [permL]; done)) xs [some (.tup xs), some (.loc st.length), none] (st ++ [.dk []]) ⟨[], none, rfl, rfl, h1, by simpa using h2, rfl⟩
    rcases key with ⟨τ', st', e, seen, τ2, e1, e2, _, _, hq⟩ | ⟨x, st', e, g, rfl, e2, hq⟩
    · subst e2
      rw [S_is_permutation_eq]
      refine gc_ok [.dk (kvI seen)] (runF_rt ?_) (by simp [WfD])
      have hq' : isP (.tup xs) = true := by rw [isP, ← hq, permL]
      simp [m_is_permutation, N_is_permutation, e, hq']
    · subst e2
      rw [S_is_permutation_eq]
      refine gc_ok g (runF_rt ?_) (by simp [WfD])
      have hq' : isP (.tup xs) = false := by rw [isP, hq]
      simp [m_is_permutation, N_is_permutation, e, hq']
  | _ =>
    first
    | (simp [pl] at h; done)
    | (rw [S_is_permutation_eq]; refine gc_ok [] (runF_rt ?_) (by simp [WfD]); simp [m_is_permutation, N_is_permutation, isP])
theorem take_eq {s t m : Int} {r : Store} (hs : 0 ≤ s) (hm : 0 < m) (hm2 : m < 1000000000) : ∃ v s' t' : Int, S_law_take A [.loc 0, .int m] (stt s t :: r) = .ok (.int v) (stt s' t' :: r) ∧ 0 ≤ v ∧ v < m ∧ 0 ≤ s' := by
  rw [S_law_take_eq]
  by_cases c : 0 < s
  · refine ⟨s % m, s / m, t, runF_rt ?_, Int.emod_nonneg _ (by omega), Int.emod_lt_of_pos _ hm, Int.ediv_nonneg hs (by omega)⟩
    simp [m_law_take, N_law_take, ix0, ix1, set0, set1, c, hm, divFits_of hm hm2]
  · refine ⟨((t * 48271 + 11) % 2147483647 / 7) % m, s, (t * 48271 + 11) % 2147483647, runF_rt ?_, Int.emod_nonneg _ (by omega), Int.emod_lt_of_pos _ hm, hs⟩
    simp [m_law_take, N_law_take, ix0, ix1, set0, set1, c, hm, divFits_of, mulFits_r]
theorem take_nat {s t : Int} {n : Nat} {r : Store} (hs : 0 ≤ s) (hn : 0 < n) (hn2 : n ≤ 1000) : ∃ (v : Nat) (s' t' : Int), S_law_take A [.loc 0, .int (n : Int)] (stt s t :: r) = .ok (.int (v : Int)) (stt s' t' :: r) ∧ v < n ∧ 0 ≤ s' := by
  obtain ⟨v, s', t', e, h0, h1, h2⟩ := take_eq (A := A) (s := s) (t := t) (m := n) (r := r) hs (by omega) (by omega)
  refine ⟨v.toNat, s', t', ?_, by omega, h2⟩
  rw [e, show ((v.toNat : Nat) : Int) = v by omega]
theorem state_eq (ns : List Int) : ∃ s t : Int, S_law_state A [.lst (ns.map D.int)] [] = .ok (.loc 0) [stt s t] ∧ 0 ≤ s := by
  have key := forS_ind (g := gN 3) (b := B_law_state_0 A)
    (P := fun ds τ st' => ∃ (s t : Int) (τ0 τ3 : Option D) (ns' : List Int), τ = [τ0, some (.int s), some (.int t), τ3] ∧ st' = [] ∧ ds = ns'.map D.int ∧ 0 ≤ s)
    (fun y ys τ st' ⟨s, t, τ0, τ3, ns', e1, e2, e3, hs⟩ => by
      subst e1 e2
      cases ns' with
      | nil => simp at e3
      | cons n ns' =>
        simp only [List.map_cons, List.cons.injEq] at e3
        obtain ⟨rfl, rfl⟩ := e3
        refine ⟨_, rfl, _, _, .inl ?_, s * 1000003 + (if n < 0 then -n else n), (t * 48271 + n) % 2147483647, τ0, some (.int n), ns', rfl, rfl, rfl, by split <;> omega⟩
        simp [b_law_state_0, mulFits_r])
    (cutD (ns.map D.int) none (some 63)) [some (.lst (ns.map D.int)), some (.int 0), some (.int 1), none] [] ⟨0, 1, _, _, ns.take 63, rfl, rfl, by
      unfold cutD
      rw [HT.sIx_none, List.drop_zero, show (some (63 : Int)) = some ((63 : Nat) : Int) from rfl, HT.sIx_nat, Nat.sub_zero, List.map_take]
      rw [List.length_map]
      rcases Nat.le_total 63 ns.length with h | h
      · rw [Nat.min_eq_left h]
      · rw [Nat.min_eq_right h, List.take_of_length_le (by simp), List.take_of_length_le (by simpa using h)], by omega⟩
  obtain ⟨τ', st', e, s, t, τ0, τ3, ns', e1, e2, _, hs⟩ := key
  subst e1 e2
  rw [S_law_state_eq]
  refine ⟨s, t, runF_rt ?_, hs⟩
  simp [m_law_state, N_law_state, e]
theorem undone_eq {p : Pm d} {st : Store} (hd : d ≤ 1000) : S_undone A [tp p] st = .ok (tp p.inv) st := by
  obtain ⟨τ', ⟨τ2, τ3, rfl⟩, e⟩ := inv_loop (g := gT (gsCons (gN 2) (gsCons (gN 3) gsNil))) (b := B_undone_0 A) (F := fun i => D.tup [nD i, nD (p.f i)]) (P := fun τ => ∃ τ2 τ3, τ = [some (tp p), some (.loc st.length), τ2, τ3]) p st (fun i hi τ ⟨τ2, τ3, e⟩ => by
    subst e
    refine ⟨_, rfl, _, ⟨some (nD i), some (nD (p.f i)), rfl⟩, ?_⟩
    have := set_last (st := st) (v := nD i) (k := p.f i) (xs := invF p i) (by rw [invF_len]; exact p.lt hi)
    simp [b_undone_0, this]) d 0 (by omega) [some (tp p), some (.loc st.length), none, none] ⟨none, none, rfl⟩
  rw [← List.range_eq_range', invF_zero, invF_all, ← enum_tp] at e
  rw [S_undone_eq]
  refine gc_ok [.lst (p.inv.list.map nD)] (runF_rt ?_) (wf_lf _ (lf_tp _))
  have z : szFits d = true := szFits_of hd
  have hl : p.list.length = d := p.len
  have z3 : w63 (d : Int) = true := w63_of (by omega) (by omega)
  simp [tp, lD] at e
  simp [m_undone, N_undone, tp, lD, hl, z, z3, e]
  rw [x_tupleLoc (xs := p.inv.list.map nD) (by simp)]
  rfl
theorem law_inverse_eq {p : Pm d} {st : Store} (hd : d ≤ 1000) : S_law_inverse A [tp p] st = .ok (tp p.inv) st := by
  obtain ⟨τ', ⟨τ2, rfl⟩, e⟩ := inv_loop (g := gN 2) (b := B_law_inverse_0 A) (F := nD) (P := fun τ => ∃ τ2, τ = [some (tp p), some (.loc st.length), τ2]) p st (fun i hi τ ⟨τ2, e⟩ => by
    subst e
    refine ⟨_, rfl, _, ⟨some (nD i), rfl⟩, ?_⟩
    have := set_last (st := st) (v := nD i) (k := p.f i) (xs := invF p i) (by rw [invF_len]; exact p.lt hi)
    simp [b_law_inverse_0, tp, lD, atI_tp p hi, this]) d 0 (by omega) [some (tp p), some (.loc st.length), none] ⟨none, rfl⟩
  have c : compS (gN 2) mYes e_law_inverse_0 [2] (p.list.map nD) [some (tp p), none, none] st [] = .ok (List.replicate d (.int 0)) st := by
    rw [compS_map (f := fun _ => .int 0)]
    · rw [List.nil_append, List.map_map]; exact congrArg (Rs.ok · st) (List.eq_replicate_iff.mpr ⟨by simp [Pm.len], fun b hb => by obtain ⟨_, _, rfl⟩ := List.mem_map.mp hb; rfl⟩)
    · intro x _; exact ⟨_, rfl, rfl, by simp [e_law_inverse_0]⟩
    · simpa [Pm.len] using small hd
  rw [← List.range_eq_range', invF_zero, invF_all, ← range_nD] at e
  rw [S_law_inverse_eq]
  refine gc_ok [.lst (p.inv.list.map nD)] (runF_rt ?_) (wf_lf _ (lf_tp _))
  have hl : p.list.length = d := p.len
  have z2 : w62 (d : Int) = true := w62_of (by omega) (by omega)
  simp [tp, lD] at e c
  simp [m_law_inverse, N_law_inverse, tp, lD, hl, z2, e, c]
  rw [x_tupleLoc (xs := p.inv.list.map nD) (by simp)]
  rfl
theorem perm_ok {p : Pm d} {st : Store} (hd : d ≤ 1000) : S_is_permutation A [tp p] st = .ok (.bl true) st := by
  rw [is_permutation_eq (A := A) (x := tp p) (st := st) rfl, isP_tp]
  intro xs e
  have e2 : xs = p.list.map nD := by injection e with e; exact e.symm
  subst e2
  refine ⟨fun y hy => ?_, ?_⟩
  · obtain ⟨n, _, rfl⟩ := List.mem_map.mp hy; rfl
  · rw [List.length_map, p.len]; exact small1000 hd
theorem check_perm_ok {p : Pm d} {st : Store} (hd : d ≤ 1000) : S_check_permutation A [tp p] st = .ok .non st := by
  rw [S_check_permutation_eq]
  refine gc_ok [] (runF_nx (τ' := [some (tp p)]) ?_) (by simp [WfD])
  simp [m_check_permutation, N_check_permutation, perm_ok hd]
theorem inverse_of_eq {p : Pm d} {st : Store} (hd : d ≤ 1000) : S_inverse_of A [tp p] st = .ok (tp p.inv) st := by
  rw [S_inverse_of_eq]
  refine gc_ok [] (runF_rt ?_) (wf_lf _ (lf_tp _))
  simp [m_inverse_of, N_inverse_of, check_perm_ok hd, undone_eq hd]
theorem perm_any {x : D} {st : Store} (h : okV x) : S_is_permutation A [x] st = .ok (.bl (isP x)) st :=
  is_permutation_eq h.1 fun xs e => ⟨(h.2 xs e).1, small1000 (h.2 xs e).2⟩
theorem inner_int {n : Nat} {i : Int} {st : Store} : S_law_inner A (n + 1) [.int i] st = .ok (.int i) st := by
  rw [S_law_inner_eq]
  refine gc_ok [] (runF_rt ?_) (by simp [WfD])
  simp [m_law_inner, N_law_inner]
theorem inner_tup {n : Nat} {xs : List D} {st : Store} (h : ∀ x ∈ xs, S_law_inner A n [x] st = .ok x st) (hl : xs.length ≤ 1000) (hf : lf (.tup xs) = true) : S_law_inner A (n + 1) [.tup xs] st = .ok (.tup xs) st := by
  rw [S_law_inner_eq]
  refine gc_ok [] (runF_rt ?_) (wf_lf _ hf)
  have k1 : compS (gN 1) mYes (e_law_inner_0 (S_law_inner A n)) [1] xs [some (.tup xs), none] st [] = .ok xs st := by
    rw [compS_map (f := fun x => x)]
    · simp
    · intro x hx
      exact ⟨_, rfl, rfl, by simp [e_law_inner_0, h x hx]⟩
    · exact small (by simpa using hl)
  simp [m_law_inner, N_law_inner, k1]
theorem is_system_ok {ps : List (Pm d)} {st : Store} (h : Sys ps) : S_is_system A [sysD ps] st = .ok (.bl true) st := by
  have hi := is_integer_eq (A := A) (x := .int (d : Int)) (st := st) rfl
  have hd := h.few
  have hr := h.rank
  have c1 : (0 : Int) ≤ (d : Int) := by omega
  have c2 : (d : Int) ≤ 24 := by omega
  have c3 : ¬ (12 : Int) < (ps.length : Int) := by omega
  have k1 : compS (gN 3) mYes (e_is_system_0 (S_is_permutation A)) [3] (ps.map tp) [some (sysD ps), some (.int (d : Int)), some (rD ps), none] st [] = .ok (ps.map fun _ => D.bl true) st := by
    rw [compS_mapL (f := fun _ => D.bl true)]
    · simp
    · intro p _
      have ql : fLen [tp p] st = .ok (.int (d : Int)) st := by simp [tp, lD, p.len]
      exact ⟨_, rfl, rfl, by simp [e_is_system_0, perm_ok (A := A) (p := p) (st := st) (by omega), ql]⟩
    · exact small (by simp; omega)
  have a1 : fAll [.lst (ps.map fun _ => D.bl true)] st = .ok (.bl true) st := by
    unfold fAll
    rw [x_onBlsF (g := fun _ => true)]
    simp
  obtain ⟨XS, hX⟩ : ∃ XS, XS = ps.map tp := ⟨_, rfl⟩
  obtain ⟨YS, hY⟩ : ∃ YS, YS = ps.map fun _ => D.bl true := ⟨_, rfl⟩
  have hl : XS.length = ps.length := by rw [hX]; simp
  rw [sysD, rD, ← hX, ← hY] at k1
  rw [← hY] at a1
  rw [S_is_system_eq, sysD, rD, ← hX]
  refine gc_ok [] (runF_rt ?_) (by simp [WfD])
  simp [m_is_system, N_is_system, hi, isI, c1, c2, c3, hl, k1, a1]
theorem check_system_of {x : D} {b : Bool} {st : Store} (h : S_is_system A [x] st = .ok (.bl b) st) : S_check_system A [x] st = if b = true then .ok .non st else .er ⟨A 2, none⟩ st := by
  rw [S_check_system_eq]
  cases b with
  | true => exact gc_ok [] (runF_nx (τ' := [some x]) (by simp [m_check_system, N_check_system, h])) (by simp [WfD])
  | false => exact gc_er [] (runF_er (τ' := [some x]) (by simp [m_check_system, N_check_system, h]))
theorem check_system_ok {ps : List (Pm d)} {st : Store} (h : Sys ps) : S_check_system A [sysD ps] st = .ok .non st := by rw [check_system_of (is_system_ok h), if_pos rfl]
theorem product_eq {p q : Pm d} {st : Store} (hd : d ≤ 1000) : S_law_product A [tp p, tp q] st = .ok (tp (p * q)) st := by
  rw [S_law_product_eq]
  refine gc_ok [] (runF_rt ?_) (wf_lf _ (lf_tp _))
  have e := comp_pq (p := p) (q := q) (m := E_law_product_0 A) (g := gN 2) (vs := [2]) (τ := [some (tp p), some (tp q), none]) (st := st) hd fun i hi => ⟨_, rfl, by simp [e_law_product_0, tp, lD, atI_tp q (p.lt hi)]⟩
  simp [m_law_product, N_law_product]
  simp [tp, lD] at e ⊢
  rw [e]
  simp
end K25

set_option Elab.async false
set_option linter.all false
set_option maxRecDepth 100000
set_option maxHeartbeats 4000000
namespace K25
open PySem L2 Fx
variable {A : Nat → Addr} {d : Nat}
theorem permutation_r {s t : Int} {r : Store} (hs : 0 ≤ s) (hd : d ≤ 1000) (hw : ∀ (i : Nat) (o : O), r[i]? = some o → WfO (r.length + 1) o) : ∃ (p : Pm d) (s' t' : Int), S_law_permutation A [.loc 0, .int (d : Int)] (stt s t :: r) = .ok (tp p) (stt s' t' :: r) ∧ 0 ≤ s' := by
  have key := sWhile_ind (t := C_law_permutation_0 A) (b := B_law_permutation_0 A)
    (P := fun n τ st => ∃ (s t : Int) (left found : List Nat), τ = [some (.loc 0), some (.int (d : Int)), some (.loc (r.length + 1)), some (.loc (r.length + 1 + 1))] ∧ st = stt s t :: (r ++ [.lst (left.map nD), .lst (found.map nD)]) ∧ 0 ≤ s ∧ left.length = n ∧ (found ++ left).Perm (List.range d))
    (R := fun τ st => ∃ (s t : Int) (found : List Nat), τ = [some (.loc 0), some (.int (d : Int)), some (.loc (r.length + 1)), some (.loc (r.length + 1 + 1))] ∧ st = stt s t :: (r ++ [.lst [], .lst (found.map nD)]) ∧ 0 ≤ s ∧ found.Perm (List.range d))
    (fun n τ st ⟨s, t, left, found, e1, e2, hs, hl, hp⟩ => by
      subst e1 e2
      have hl1 : 0 < left.length := by omega
      have hb : found.length + left.length = d := by have := hp.length_eq; simpa using this
      obtain ⟨v, s', t', e, hv, hs'⟩ := take_nat (A := A) (s := s) (t := t) (n := left.length) (r := r ++ [.lst (left.map nD), .lst (found.map nD)]) hs hl1 (by omega)
      have hx : left[v]? = some left[v] := List.getElem?_eq_getElem hv
      have q1 := x_popAt (st := stt s' t' :: (r ++ [.lst (left.map nD), .lst (found.map nD)])) (n := r.length + 1) (xs := left.map nD) (k := v) (d := nD left[v]) (by simp) (by rw [List.getElem?_map, hx]; rfl) (by omega)
      have q2 := x_app (st := stt s' t' :: (r ++ [.lst ((left.map nD).eraseIdx v), .lst (found.map nD)])) (n := r.length + 1 + 1) (xs := found.map nD) (d := nD left[v]) (by simp) (small1000 (by simp; omega))
      have ql := x_lenLoc (st := stt s t :: (r ++ [.lst (left.map nD), .lst (found.map nD)])) (i := r.length + 1) (xs := left.map nD) (by simp)
      refine ⟨stt s t :: (r ++ [.lst (left.map nD), .lst (found.map nD)]), _, stt s' t' :: (r ++ [.lst ((left.eraseIdx v).map nD), .lst ((found ++ [left[v]]).map nD)]), ?_, .inl ?_, s', t', left.eraseIdx v, found ++ [left[v]], rfl, rfl, hs', ?_, ?_⟩
      · simp [c_law_permutation_0, ql]; omega
      · simp at q1 q2
        simp [b_law_permutation_0, Fx.listOf, ql, e, q1, q2]
        rw [erase_map]
      · rw [List.length_eraseIdx_of_lt hv]; omega
      · rw [List.append_assoc]; exact ((erase_perm hx).append_left found).trans hp)
    (fun τ st ⟨s, t, left, found, e1, e2, hs, hl, hp⟩ => by
      subst e1 e2
      have : left = [] := List.length_eq_zero_iff.mp hl
      subst this
      have ql := x_lenLoc (st := stt s t :: (r ++ [.lst [], .lst (found.map nD)])) (i := r.length + 1) (xs := []) (by simp)
      refine ⟨stt s t :: (r ++ [.lst [], .lst (found.map nD)]), ?_, s, t, found, rfl, rfl, hs, by simpa using hp⟩
      simp [c_law_permutation_0, ql])
    d [some (.loc 0), some (.int (d : Int)), some (.loc (r.length + 1)), some (.loc (r.length + 1 + 1))] (stt s t :: (r ++ [.lst ((List.range d).map nD), .lst []])) ⟨s, t, List.range d, [], rfl, rfl, hs, by simp, by simp⟩
  obtain ⟨τ', st', e, s', t', found, e1, e2, hs', hp⟩ := key
  subst e1 e2
  refine ⟨Pm.ofList found hp, s', t', ?_, hs'⟩
  rw [S_law_permutation_eq]
  refine gc_ok' [.lst [], .lst (found.map nD)] (runF_rt ?_) (by simp) ?_ (wf_lf _ (lf_tp _))
  · have z : rgFits 0 (d : Int) = true := rgFits_of (by omega) (by omega) (by omega) (by omega)
    have qt := x_tupleLoc (st := stt s' t' :: (r ++ [.lst [], .lst (found.map nD)])) (i := r.length + 1 + 1) (xs := found.map nD) (by simp)
    simp [m_law_permutation, N_law_permutation, z, range_nD, e, qt]
    simp [tp, lD, Pm.ofList_list]
  · intro i o h
    cases i with
    | zero => simp at h; subst h; simp [WfO, WfDs, WfD]
    | succ i => simp at h; exact hw i o h
theorem swap_comp {a b : Nat} {st : Store} {τ : En} (hd : d ≤ 1000) (ha : a < d) (hb : b < d) (h6 : ∀ x, (τ.set 8 (some (nD x)))[6]? = some (some (nD a))) (h7 : ∀ x, (τ.set 8 (some (nD x)))[7]? = some (some (nD b))) (h8 : 8 < τ.length) :
    compS (gN 8) mYes e_law_system_0 [8] ((List.range d).map nD) τ st [] = .ok ((Fx.Pm.swap a b ha hb).list.map nD) st := by
  refine comp_f hd fun x hx => ⟨_, rfl, ?_⟩
  have e : ((wipeE τ [8]).set 8 (some (nD x))) = τ.set 8 (some (nD x)) := by simp
  rw [e]
  have q8 : (τ.set 8 (some (nD x)))[8]? = some (some (nD x)) := by simp [h8]
  by_cases h1 : x = a
  · subst h1; simp [e_law_system_0, Fx.Pm.swap, h6, h7, q8]
  · have h1' : ¬ (x : Int) = (a : Int) := by omega
    by_cases h2 : x = b
    · subst h2; simp [e_law_system_0, Fx.Pm.swap, h6, h7, q8, h1]
    · have h2' : ¬ (x : Int) = (b : Int) := by omega
      simp [e_law_system_0, Fx.Pm.swap, h6, h7, q8, h1, h2]
      rw [if_neg h1', if_neg h2']
theorem shift_comp {st : Store} {τ : En} (hd : d ≤ 1000) (hd0 : 0 < d) (h1 : ∀ x, (τ.set 8 (some (nD x)))[1]? = some (some (.int (d : Int)))) (h8 : 8 < τ.length) :
    compS (gN 8) mYes e_law_system_1 [8] ((List.range d).map nD) τ st [] = .ok ((shift d hd0).list.map nD) st := by
  refine comp_f hd fun x hx => ⟨_, rfl, ?_⟩
  have e : ((wipeE τ [8]).set 8 (some (nD x))) = τ.set 8 (some (nD x)) := by simp
  rw [e]
  have q8 : (τ.set 8 (some (nD x)))[8]? = some (some (nD x)) := by simp [h8]
  have hd' : (0 : Int) < (d : Int) := by omega
  have em : ((x : Int) + 1) % (d : Int) = (((x + 1) % d : Nat) : Int) := by simp
  have ef : (shift d hd0).f x = (x + 1) % d := by simp only [shift, hx, if_true]
  rw [ef]
  simp [e_law_system_1, h1, q8, hd0]
theorem system_step {s t : Int} {ps : List (Pm d)} {k : Int} {τ4 τ5 τ6 τ7 τ8 : Option D} (hs : 0 ≤ s) (hd : 1 ≤ d) (hd2 : d ≤ 24) (hl : ps.length ≤ 50) : ∃ (q : Pm d) (s' t' : Int) (τ5' τ6' τ7' : Option D),
    B_law_system_0 A [some (.loc 0), some (.int (d : Int)), some (.int k), some (.loc 1), τ4, τ5, τ6, τ7, τ8] [stt s t, .lst (ps.map tp)] = .nx [some (.loc 0), some (.int (d : Int)), some (.int k), some (.loc 1), τ4, τ5', τ6', τ7', τ8] [stt s' t', .lst ((ps ++ [q]).map tp)] ∧ 0 ≤ s' := by
  obtain ⟨v, s1, t1, q1, hv, hs1⟩ := take_nat (A := A) (s := s) (t := t) (n := 6) (r := [.lst (ps.map tp)]) hs (by omega) (by omega)
  simp at q1
  have qa : ∀ (s t : Int) (p : Pm d), fApp (.loc 1) [tp p] [stt s t, .lst (ps.map tp)] = .ok .non [stt s t, .lst (ps.map tp ++ [tp p])] := fun s t p => x_app (st := [stt s t, .lst (ps.map tp)]) (n := 1) rfl (small1000 (by simp; omega))
  have ql : ∀ (s t : Int), fLen [.loc 1] [stt s t, .lst (ps.map tp)] = .ok (.int (ps.length : Int)) [stt s t, .lst (ps.map tp)] := fun s t => by
    have := x_lenLoc (st := [stt s t, .lst (ps.map tp)]) (i := 1) (xs := ps.map tp) rfl
    rw [List.length_map] at this; exact this
  have z : w62 (d : Int) = true := w62_of (by omega) (by omega)
  by_cases cA : v = 0 ∧ 0 < ps.length
  · obtain ⟨rfl, hp0⟩ := cA
    obtain ⟨u, s2, t2, q2, hu, hs2⟩ := take_nat (A := A) (s := s1) (t := t1) (n := ps.length) (r := [.lst (ps.map tp)]) hs1 hp0 (by omega)
    have qi : fIx (.loc 1) (.int (u : Int)) [stt s2 t2, .lst (ps.map tp)] = .ok (tp ps[u]) [stt s2 t2, .lst (ps.map tp)] := by
      rw [x_ixLoc (xs := ps.map tp) rfl, atI_map (List.getElem?_eq_getElem hu)]
    simp at q1
    refine ⟨ps[u].inv, s2, t2, some (.int 0), τ6, τ7, ?_, hs2⟩
    simp [b_law_system_0, q1, ql, hp0, Fx.listOf, q2, qi, law_inverse_eq (A := A) (p := ps[u]) (by omega), qa]
  · have cA' : ¬ ((v : Int) = 0 ∧ (0 : Int) < (ps.length : Int)) := fun z => cA ⟨by omega, by omega⟩
    obtain ⟨W5, hW5⟩ : ∃ W5 : D, W5 = .int (v : Int) := ⟨_, rfl⟩
    by_cases cB : v = 1 ∧ 1 < d
    · obtain ⟨rfl, hd1⟩ := cB
      obtain ⟨a, s2, t2, q2, ha, hs2⟩ := take_nat (A := A) (s := s1) (t := t1) (n := d) (r := [.lst (ps.map tp)]) hs1 (by omega) (by omega)
      obtain ⟨u, s3, t3, q3, hu, hs3⟩ := take_nat (A := A) (s := s2) (t := t2) (n := d - 1) (r := [.lst (ps.map tp)]) hs2 (by omega) (by omega)
      have em0 : ((a : Int) + 1 + (u : Int)) % (d : Int) = (((a + 1 + u) % d : Nat) : Int) := by simp
      have hb0 : (a + 1 + u) % d < d := Nat.mod_lt _ (by omega)
      obtain ⟨b, hbk⟩ : ∃ b, b = (a + 1 + u) % d := ⟨_, rfl⟩
      rw [← hbk] at em0 hb0
      have ed : (((d - 1 : Nat) : Nat) : Int) = (d : Int) - 1 := by omega
      rw [ed] at q3
      have hd0 : 0 < d := by omega
      have k1 := swap_comp (st := [stt s3 t3, .lst (ps.map tp)]) (τ := [some (.loc 0), some (.int (d : Int)), some (.int k), some (.loc 1), τ4, some (.int 1), some (nD a), some (nD b), τ8]) (by omega) ha hb0 (fun _ => rfl) (fun _ => rfl) (by simp)
      have qa2 := qa s3 t3 (Fx.Pm.swap a b ha hb0)
      refine ⟨Fx.Pm.swap a b ha hb0, s3, t3, some (.int 1), some (nD a), some (nD b), ?_, hs3⟩
      simp at q1
      have hd1i : (1 : Int) < (d : Int) := by omega
      have qa3 : fApp (.loc 1) [.tup ((Fx.Pm.swap a b ha hb0).list.map nD)] [stt s3 t3, .lst (ps.map tp)] = .ok .non [stt s3 t3, .lst (ps.map tp ++ [tp (Fx.Pm.swap a b ha hb0)])] := qa s3 t3 _
      simp [b_law_system_0, q1, Fx.listOf, q2, q3, em0, hd0, hd1i, z, range_nD, k1, qa3]
    · have hd0 : 0 < d := by omega
      by_cases cC : v = 2
      · subst cC
        have k1 := shift_comp (st := [stt s1 t1, .lst (ps.map tp)]) (τ := [some (.loc 0), some (.int (d : Int)), some (.int k), some (.loc 1), τ4, some (.int 2), τ6, τ7, τ8]) (by omega) hd0 (fun _ => rfl) (by simp)
        have qa3 : fApp (.loc 1) [.tup ((shift d hd0).list.map nD)] [stt s1 t1, .lst (ps.map tp)] = .ok .non [stt s1 t1, .lst (ps.map tp ++ [tp (shift d hd0)])] := qa s1 t1 _
        refine ⟨shift d hd0, s1, t1, some (.int 2), τ6, τ7, ?_, hs1⟩
        simp at q1
        simp [b_law_system_0, q1, Fx.listOf, z, range_nD, k1, qa3]
      · obtain ⟨p, s2, t2, q2, hs2⟩ := permutation_r (A := A) (d := d) (s := s1) (t := t1) (r := [.lst (ps.map tp)]) hs1 (by omega) (fun i o h => by
          cases i with
          | zero => simp at h; subst h; exact wf_lfs _ (by simp [lfs_all, List.all_map])
          | succ i => simp at h)
        have c2 : ¬ (v : Int) = 2 := by omega
        have cB' : (v : Int) = 1 → ¬ (1 : Int) < (d : Int) := fun e z => cB ⟨by omega, by omega⟩
        have cA2 : (v : Int) = 0 → ¬ (0 : Int) < (ps.length : Int) := fun e z => cA ⟨by omega, by omega⟩
        refine ⟨p, s2, t2, some (.int (v : Int)), τ6, τ7, ?_, hs2⟩
        by_cases v0 : v = 0
        · subst v0
          have n0 : ps.length = 0 := by have := cA2 rfl; omega
          simp at q1
          simp [b_law_system_0, q1, ql, Fx.listOf, n0, q2, qa]
        · by_cases v1 : v = 1
          · subst v1
            have n1 := cB' rfl
            simp at q1
            simp [b_law_system_0, q1, ql, Fx.listOf, n1, q2, qa]
          · have c1 : ¬ (v : Int) = 1 := by omega
            have c0 : ¬ (v : Int) = 0 := by omega
            simp [b_law_system_0, q1, ql, Fx.listOf, v0, v1, c0, c1, c2, cC, q2, qa]
theorem law_system_eq {s t : Int} {k : Nat} (hs : 0 ≤ s) (hd : 1 ≤ d) (hd2 : d ≤ 24) (hk : k ≤ 12) : ∃ (ps : List (Pm d)) (s' t' : Int), S_law_system A [.loc 0, .int (d : Int), .int (k : Int)] [stt s t] = .ok (sysD ps) [stt s' t'] ∧ 0 ≤ s' ∧ ps.length = k := by
  have key := forS_ind (g := gN 4) (b := B_law_system_0 A)
    (P := fun ds τ st => ∃ (s t : Int) (ps : List (Pm d)) (τ4 τ5 τ6 τ7 τ8 : Option D), τ = [some (.loc 0), some (.int (d : Int)), some (.int (k : Int)), some (.loc 1), τ4, τ5, τ6, τ7, τ8] ∧ st = [stt s t, .lst (ps.map tp)] ∧ 0 ≤ s ∧ ps.length + ds.length = k)
    (fun y ys τ st ⟨s, t, ps, τ4, τ5, τ6, τ7, τ8, e1, e2, hs, hl⟩ => by
      subst e1 e2
      simp only [List.length_cons] at hl
      obtain ⟨q, s', t', τ5', τ6', τ7', e, hs'⟩ := system_step (A := A) (s := s) (t := t) (ps := ps) (k := (k : Int)) (τ4 := some y) (τ5 := τ5) (τ6 := τ6) (τ7 := τ7) (τ8 := τ8) hs hd hd2 (by omega)
      exact ⟨_, rfl, _, _, .inl e, s', t', ps ++ [q], some y, τ5', τ6', τ7', τ8, rfl, rfl, hs', by simp; omega⟩)
    (rangeD 0 (k : Int)) [some (.loc 0), some (.int (d : Int)), some (.int (k : Int)), some (.loc 1), none, none, none, none, none] [stt s t, .lst []] ⟨s, t, [], none, none, none, none, none, rfl, rfl, hs, by simp⟩
  obtain ⟨τ', st', e, s', t', ps, τ4, τ5, τ6, τ7, τ8, e1, e2, hs', hl⟩ := key
  subst e1 e2
  refine ⟨ps, s', t', ?_, hs', by simpa using hl⟩
  rw [S_law_system_eq]
  refine gc_ok' [.lst (ps.map tp)] (runF_rt ?_) rfl ?_ (wf_lf _ (by simp [sysD]))
  · have z : w62 (k : Int) = true := w62_of (by omega) (by omega)
    have qt := x_tupleLoc (st := [stt s' t', .lst (ps.map tp)]) (i := 1) (xs := ps.map tp) rfl
    simp [m_law_system, N_law_system, z, e, qt, sysD, rD]
  · intro i o h
    cases i with
    | zero => simp at h; subst h; simp [WfO, WfDs, WfD]
    | succ i => simp at h
theorem lp_inner {st0 : Store} {L m x k : Nat} {e0 e1 e2 e4 e5 : Option D} (hL : L ≠ m) (hl : L < st0.length) (hm : m < st0.length) (hx : x < d) (hd : d ≤ 900) : ∀ (qs : List (Pm d)) (σ : List Nat × List Nat) (e8 e9 : Option D), σ.2[k]? = some x → Inv2 d σ → ∃ e8' e9' : Option D,
    forS (gN 8) b_law_parts_0 (qs.map tp) [e0, e1, e2, some (.loc L), e4, e5, some (.loc m), some (.int (k : Int)), e8, e9] (two st0 L m (seenO d σ.1) (.lst (σ.2.map nD))) =
      .nx [e0, e1, e2, some (.loc L), e4, e5, some (.loc m), some (.int (k : Int)), e8', e9'] (two st0 L m (seenO d (qs.foldl (vis x) σ).1) (.lst ((qs.foldl (vis x) σ).2.map nD)))
  | [], σ, e8, e9, _, _ => ⟨e8, e9, rfl⟩
  | p :: qs, σ, e8, e9, hk, hv => by
    have hy : p.f x < d := p.lt hx
    obtain ⟨e8', e9', ih⟩ := lp_inner (e0 := e0) (e1 := e1) (e2 := e2) (e4 := e4) (e5 := e5) hL hl hm hx hd qs (vis x σ p) (some (tp p)) (some (nD (p.f x))) (vis_get hk) (hv.vis hx p)
    refine ⟨e8', e9', ?_⟩
    rw [List.map_cons, x_forS_cons, List.foldl_cons, ← ih]
    have q1 := x_ixLoc (k := (k : Int)) (two_m (st := st0) (L := L) (X := seenO d σ.1) (Y := .lst (σ.2.map nD)) hm)
    rw [atI_map hk] at q1
    have q2 : fIx (tp p) (nD x) (two st0 L m (seenO d σ.1) (.lst (σ.2.map nD))) = .ok (nD (p.f x)) (two st0 L m (seenO d σ.1) (.lst (σ.2.map nD))) := by
      rw [tp, lD, nD, x_ixT, atI_tp _ hx]
    have q3 := seenO_get (two_L (st := st0) (X := seenO d σ.1) (Y := .lst (σ.2.map nD)) hL hl) hy
    by_cases c : p.f x ∈ σ.1
    · have ev : vis x σ p = σ := by rw [vis, if_pos c]
      rw [ev]
      simp [b_law_parts_0, q1, q2, q3, c]
    · have ev : vis x σ p = (σ.1 ++ [p.f x], σ.2 ++ [p.f x]) := by rw [vis, if_neg c]
      rw [ev]
      have q4 := seenO_set (two_L (st := st0) (X := seenO d σ.1) (Y := .lst (σ.2.map nD)) hL hl) hy
      rw [two_setL hL] at q4
      have q5 := x_app (d := nD (p.f x)) (two_m (st := st0) (L := L) (X := seenO d (σ.1 ++ [p.f x])) (Y := .lst (σ.2.map nD)) hm) (small1000 (by have := hv.len2; simp; omega))
      rw [two_setm] at q5
      have q6 := two_m (st := st0) (L := L) (X := seenO d (σ.1 ++ [p.f x])) (Y := .lst (σ.2.map nD)) hm
      simp [b_law_parts_0, q1, q2, q3, c, q4, q5, q6, Fx.listOf]
theorem lp_while {ps : List (Pm d)} {st0 : Store} {L m : Nat} {e0 e1 e4 e5 : Option D} (hL : L ≠ m) (hl : L < st0.length) (hm : m < st0.length) (hd : d ≤ 900) : ∀ (n k : Nat) (σ : List Nat × List Nat) (e8 e9 : Option D), d ≤ k + n → Inv2 d σ → ∃ (k' : Int) (e8' e9' : Option D),
    sWhile c_law_parts_0 b_law_parts_1 [e0, e1, some (rD ps), some (.loc L), e4, e5, some (.loc m), some (.int (k : Int)), e8, e9] (two st0 L m (seenO d σ.1) (.lst (σ.2.map nD))) =
      .nx [e0, e1, some (rD ps), some (.loc L), e4, e5, some (.loc m), some (.int k'), e8', e9'] (two st0 L m (seenO d (bfs ps n k σ).1) (.lst ((bfs ps n k σ).2.map nD)))
  | n, k, σ, e8, e9, hk, hv => by
    have ql := x_lenLoc (two_m (st := st0) (L := L) (X := seenO d σ.1) (Y := .lst (σ.2.map nD)) hm)
    have stop : ¬ k < σ.2.length → ∃ (k' : Int) (e8' e9' : Option D),
        sWhile c_law_parts_0 b_law_parts_1 [e0, e1, some (rD ps), some (.loc L), e4, e5, some (.loc m), some (.int (k : Int)), e8, e9] (two st0 L m (seenO d σ.1) (.lst (σ.2.map nD))) =
          .nx [e0, e1, some (rD ps), some (.loc L), e4, e5, some (.loc m), some (.int k'), e8', e9'] (two st0 L m (seenO d σ.1) (.lst (σ.2.map nD))) := fun h => by
      refine ⟨k, e8, e9, ?_⟩
      rw [sWhile_eq]
      simp [c_law_parts_0, ql, h]
    cases n with
    | zero =>
      exact stop (by have := hv.len2; omega)
    | succ n =>
      rw [bfs]
      cases hx : σ.2[k]? with
      | none =>
        exact stop (by have := List.getElem?_eq_none_iff.mp hx; omega)
      | some x =>
        have hxl := (List.getElem?_eq_some_iff.mp hx).1
        have hxd : x < d := hv.lt x (hv.sub x (List.mem_of_getElem? hx))
        obtain ⟨e8', e9', q1⟩ := lp_inner (e0 := e0) (e1 := e1) (e2 := some (rD ps)) (e4 := e4) (e5 := e5) hL hl hm hxd hd ps σ e8 e9 hx hv
        obtain ⟨k', e8'', e9'', q2⟩ := lp_while (ps := ps) (e0 := e0) (e1 := e1) (e4 := e4) (e5 := e5) hL hl hm hd n (k + 1) (ps.foldl (vis x) σ) e8' e9' (by omega) (hv.fold hxd ps)
        refine ⟨k', e8'', e9'', ?_⟩
        rw [← q2, sWhile_eq]
        obtain ⟨XS, hX⟩ : ∃ XS, XS = ps.map tp := ⟨_, rfl⟩
        have eR : rD ps = .tup XS := by rw [hX]; rfl
        rw [eR] at q1 ⊢
        rw [← hX] at q1
        simp [c_law_parts_0, ql, hxl, b_law_parts_1, q1]
theorem lp_outer {ps : List (Pm d)} {st : Store} {e0 : Option D} (hd : d ≤ 900) : ∀ (n j : Nat) (t : List Nat × List (List Nat)) (g : Store) (e5 e6 e7 e8 e9 : Option D), j + n = d → t.1.Nodup → (∀ x ∈ t.1, x < d) → t.2.length ≤ j → ∃ (g' : Store) (e5' e6' e7' e8' e9' : Option D),
    forS (gN 5) b_law_parts_2 ((List.range' j n).map nD) [e0, some (.int (d : Int)), some (rD ps), some (.loc st.length), some (.loc (st.length + 1)), e5, e6, e7, e8, e9] (st ++ seenO d t.1 :: .lst (t.2.map partD) :: g) =
      .nx [e0, some (.int (d : Int)), some (rD ps), some (.loc st.length), some (.loc (st.length + 1)), e5', e6', e7', e8', e9'] (st ++ seenO d ((List.range' j n).foldl (out1 ps) t).1 :: .lst (((List.range' j n).foldl (out1 ps) t).2.map partD) :: g')
  | 0, j, t, g, e5, e6, e7, e8, e9, _, _, _, _ => ⟨g, e5, e6, e7, e8, e9, rfl⟩
  | n + 1, j, t, g, e5, e6, e7, e8, e9, hj, hn, hlt, htl => by
    have hjd : j < d := by omega
    rw [List.range'_succ, List.map_cons, List.foldl_cons, x_forS_cons]
    have q0 := seenO_get (st := st ++ seenO d t.1 :: .lst (t.2.map partD) :: g) (L := st.length) (seen := t.1) (by simp) hjd
    by_cases c : j ∈ t.1
    · have eo : out1 ps t j = t := by rw [out1, if_pos c]
      obtain ⟨g', a5, a6, a7, a8, a9, ih⟩ := lp_outer (ps := ps) (st := st) (e0 := e0) hd n (j + 1) t g (some (nD j)) e6 e7 e8 e9 (by omega) hn hlt (by omega)
      refine ⟨g', a5, a6, a7, a8, a9, ?_⟩
      rw [eo, ← ih]
      simp [b_law_parts_2, q0, c]
    · have hv : Inv2 d (t.1 ++ [j], [j]) := ⟨nodup_snoc hn c, fun z hz => by
        rcases List.mem_append.mp hz with hz | hz
        · exact hlt z hz
        · rw [List.mem_singleton] at hz; omega, by simp, fun z hz => List.mem_append_right _ hz⟩
      have hv' := hv.bfs (ps := ps) d 0
      have eo : out1 ps t j = ((bfs ps d 0 (t.1 ++ [j], [j])).1, t.2 ++ [(bfs ps d 0 (t.1 ++ [j], [j])).2]) := by rw [out1, if_neg c]
      obtain ⟨S0, hS0⟩ : ∃ S0, S0 = st ++ seenO d t.1 :: .lst (t.2.map partD) :: (g ++ [.lst [nD j]]) := ⟨_, rfl⟩
      have hl0 : S0.length = st.length + 2 + g.length + 1 := by rw [hS0]; simp; omega
      have hm0 : st.length ≠ st.length + 2 + g.length := by omega
      have w0 : two S0 st.length (st.length + 2 + g.length) (seenO d (t.1 ++ [j])) (.lst [nD j]) = st ++ seenO d (t.1 ++ [j]) :: .lst (t.2.map partD) :: (g ++ [.lst [nD j]]) := by
        rw [hS0, two, List.set_append_right _ _ (by omega), List.set_append_right _ _ (by omega)]
        rw [show st.length - st.length = 0 by omega, show st.length + 2 + g.length - st.length = g.length + 1 + 1 by omega]
        rw [List.set_cons_zero, List.set_cons_succ, List.set_cons_succ, List.set_append_right _ _ (by omega), Nat.sub_self]; rfl
      obtain ⟨k', a8, a9, qw⟩ := lp_while (ps := ps) (st0 := S0) (L := st.length) (m := st.length + 2 + g.length) (e0 := e0) (e1 := some (.int (d : Int))) (e4 := some (.loc (st.length + 1))) (e5 := some (nD j)) hm0 (by omega) (by omega) hd d 0 (t.1 ++ [j], [j]) e8 e9 (by omega) hv
      obtain ⟨ρ, hρ⟩ : ∃ ρ, ρ = bfs ps d 0 (t.1 ++ [j], [j]) := ⟨_, rfl⟩
      rw [← hρ] at qw hv' eo
      have w1 : two S0 st.length (st.length + 2 + g.length) (seenO d ρ.1) (.lst (ρ.2.map nD)) = st ++ seenO d ρ.1 :: .lst (t.2.map partD) :: (g ++ [.lst (ρ.2.map nD)]) := by
        rw [hS0, two, List.set_append_right _ _ (by omega), List.set_append_right _ _ (by omega)]
        rw [show st.length - st.length = 0 by omega, show st.length + 2 + g.length - st.length = g.length + 1 + 1 by omega]
        rw [List.set_cons_zero, List.set_cons_succ, List.set_cons_succ, List.set_append_right _ _ (by omega), Nat.sub_self]; rfl
      have em : ([j] : List Nat).map nD = [nD j] := rfl
      simp only [em] at qw
      rw [w0, w1] at qw
      obtain ⟨g', b5, b6, b7, b8, b9, ih⟩ := lp_outer (ps := ps) (st := st) (e0 := e0) hd n (j + 1) (ρ.1, t.2 ++ [ρ.2]) (g ++ [.lst (ρ.2.map nD)]) (some (nD j)) (some (.loc (st.length + 2 + g.length))) (some (.int k')) a8 a9 (by omega) hv'.nd hv'.lt (by simp; omega)
      refine ⟨g', b5, b6, b7, b8, b9, ?_⟩
      rw [eo, ← ih]
      have q1 := seenO_set (st := st ++ seenO d t.1 :: .lst (t.2.map partD) :: (g ++ [.lst [nD j]])) (L := st.length) (seen := t.1) (by simp) hjd
      rw [List.set_append_right _ _ (by omega), Nat.sub_self, List.set_cons_zero] at q1
      have q2 := x_sortedLoc (st := st ++ seenO d ρ.1 :: .lst (t.2.map partD) :: (g ++ [.lst (ρ.2.map nD)])) (m := st.length + 2 + g.length) (l := ρ.2) (by rw [List.getElem?_append_right (by omega), show st.length + 2 + g.length - st.length = g.length + 1 + 1 by omega]; simp)
      have q3 := x_app (st := st ++ seenO d ρ.1 :: .lst (t.2.map partD) :: (g ++ [.lst (ρ.2.map nD)])) (n := st.length + 1) (xs := t.2.map partD) (d := partD ρ.2) (by simp) (small1000 (by simp; omega))
      have q4 : (st ++ seenO d ρ.1 :: .lst (t.2.map partD) :: (g ++ [.lst (ρ.2.map nD)]))[st.length + 1]? = some (.lst (t.2.map partD)) := by simp
      have w2 : (st ++ seenO d ρ.1 :: .lst (t.2.map partD) :: (g ++ [.lst (ρ.2.map nD)])).set (st.length + 1) (.lst (t.2.map partD ++ [partD ρ.2])) = st ++ seenO d ρ.1 :: .lst ((t.2 ++ [ρ.2]).map partD) :: (g ++ [.lst (ρ.2.map nD)]) := by
        rw [List.set_append_right _ _ (by omega), show st.length + 1 - st.length = 0 + 1 by omega, List.set_cons_succ, List.set_cons_zero, List.map_append]; rfl
      rw [w2] at q3
      have el : st.length + (g.length + 1 + 1) = st.length + 2 + g.length := by omega
      have pd : partD ρ.2 = .tup ((sortI (ρ.2.map fun (k : Nat) => (k : Int))).map D.int) := rfl
      have i0 : ((0 : Nat) : Int) = 0 := rfl
      rw [i0] at qw
      rw [pd] at q3
      simp [b_law_parts_2, q0, c, el, q1, qw, q2, Fx.listOf, q4, q3]
theorem law_parts_eq {ps : List (Pm d)} {st : Store} (hd : d ≤ 900) : S_law_parts A [sysD ps] st = .ok (.tup ((parts ps).map partD)) st := by
  obtain ⟨g', a5, a6, a7, a8, a9, e⟩ := lp_outer (ps := ps) (st := st) (e0 := some (sysD ps)) hd d 0 ([], []) [] none none none none none (by omega) .nil (by simp) (by simp)
  rw [← List.range_eq_range', ← range_nD] at e
  have z : w62 (d : Int) = true := w62_of (by omega) (by omega)
  rw [S_law_parts_eq]
  refine gc_ok (seenO d ((List.range d).foldl (out1 ps) ([], [])).1 :: .lst ((parts ps).map partD) :: g') (runF_rt ?_) (wf_lf _ (by simp [List.all_map]))
  have k1 : compS (gN 5) mYes e_law_parts_0 [5] (rangeD 0 (d : Int)) [some (sysD ps), some (.int (d : Int)), some (rD ps), none, none, none, none, none, none, none] st [] = .ok ((List.range d).map fun _ => D.bl false) st := by
    rw [range_nD, compS_mapL (f := fun _ => D.bl false)]
    · simp
    · intro x hx
      exact ⟨_, rfl, rfl, rfl⟩
    · exact small (by simp; omega)
  have es : O.lst ((List.range d).map fun _ => D.bl false) = seenO d [] := by
    simp [seenO]
  have qt := x_tupleLoc (st := st ++ seenO d ((List.range d).foldl (out1 ps) ([], [])).1 :: .lst ((parts ps).map partD) :: g') (i := st.length + 1) (xs := (parts ps).map partD) (by simp)
  obtain ⟨XS, hX⟩ : ∃ XS, XS = ps.map tp := ⟨_, rfl⟩
  have eR : rD ps = .tup XS := by rw [hX]; rfl
  rw [parts] at qt ⊢
  simp only [List.map_nil] at e
  obtain ⟨LL, hLL⟩ : ∃ LL, LL = (List.range d).map fun _ => D.bl false := ⟨_, rfl⟩
  rw [← hLL] at k1 es
  have sD : sysD ps = .tup [.int (d : Int), rD ps] := rfl
  rw [sD] at k1 e ⊢
  simp [m_law_parts, N_law_parts, z, k1, es, e, qt]
theorem fp_inner {st0 : Store} {L m x k : Nat} {e0 e1 e3 : Option D} (hL : L ≠ m) (hl : L < st0.length) (hm : m < st0.length) (hx : x < d) (hd : d ≤ 900) : ∀ (qs : List (Pm d)) (σ : List Nat × List Nat) (e6 e7 : Option D), σ.2[k]? = some x → Inv2 d σ → ∃ e6' e7' : Option D,
    forS (gN 6) b_found_parts_0 (qs.map tp) [e0, e1, some (.loc L), e3, some (.loc m), some (.int (k : Int)), e6, e7] (two st0 L m (seenK σ.1) (.lst (σ.2.map nD))) =
      .nx [e0, e1, some (.loc L), e3, some (.loc m), some (.int (k : Int)), e6', e7'] (two st0 L m (seenK (qs.foldl (vis x) σ).1) (.lst ((qs.foldl (vis x) σ).2.map nD)))
  | [], σ, e6, e7, _, _ => ⟨e6, e7, rfl⟩
  | p :: qs, σ, e6, e7, hk, hv => by
    have hy : p.f x < d := p.lt hx
    obtain ⟨e6', e7', ih⟩ := fp_inner (e0 := e0) (e1 := e1) (e3 := e3) hL hl hm hx hd qs (vis x σ p) (some (tp p)) (some (nD (p.f x))) (vis_get hk) (hv.vis hx p)
    refine ⟨e6', e7', ?_⟩
    rw [List.map_cons, x_forS_cons, List.foldl_cons, ← ih]
    have q1 := x_ixLoc (k := (k : Int)) (two_m (st := st0) (L := L) (X := seenK σ.1) (Y := .lst (σ.2.map nD)) hm)
    rw [atI_map hk] at q1
    have q2 : fIx (tp p) (nD x) (two st0 L m (seenK σ.1) (.lst (σ.2.map nD))) = .ok (nD (p.f x)) (two st0 L m (seenK σ.1) (.lst (σ.2.map nD))) := by
      rw [tp, lD, nD, x_ixT, atI_tp _ hx]
    have q3 := fDIn_not (seenK_in (y := p.f x) (two_L (st := st0) (X := seenK σ.1) (Y := .lst (σ.2.map nD)) hL hl))
    by_cases c : p.f x ∈ σ.1
    · have ev : vis x σ p = σ := by rw [vis, if_pos c]
      rw [ev]
      simp [b_found_parts_0, q1, q2, q3, c]
    · have ev : vis x σ p = (σ.1 ++ [p.f x], σ.2 ++ [p.f x]) := by rw [vis, if_neg c]
      rw [ev]
      have q4 := seenK_set (two_L (st := st0) (X := seenK σ.1) (Y := .lst (σ.2.map nD)) hL hl) c (by have := hv.len; omega)
      rw [two_setL hL] at q4
      have q5 := x_app (d := nD (p.f x)) (two_m (st := st0) (L := L) (X := seenK (σ.1 ++ [p.f x])) (Y := .lst (σ.2.map nD)) hm) (small1000 (by have := hv.len2; simp; omega))
      rw [two_setm] at q5
      have q6 := two_m (st := st0) (L := L) (X := seenK (σ.1 ++ [p.f x])) (Y := .lst (σ.2.map nD)) hm
      simp [b_found_parts_0, q1, q2, q3, c, q4, q5, q6, Fx.listOf]
theorem fp_while {ps : List (Pm d)} {st0 : Store} {L m : Nat} {e1 e3 : Option D} (hL : L ≠ m) (hl : L < st0.length) (hm : m < st0.length) (hd : d ≤ 900) : ∀ (n k : Nat) (σ : List Nat × List Nat) (e6 e7 : Option D), d ≤ k + n → Inv2 d σ → ∃ (k' : Int) (e6' e7' : Option D),
    sWhile c_found_parts_0 b_found_parts_1 [some (sysD ps), e1, some (.loc L), e3, some (.loc m), some (.int (k : Int)), e6, e7] (two st0 L m (seenK σ.1) (.lst (σ.2.map nD))) =
      .nx [some (sysD ps), e1, some (.loc L), e3, some (.loc m), some (.int k'), e6', e7'] (two st0 L m (seenK (bfs ps n k σ).1) (.lst ((bfs ps n k σ).2.map nD)))
  | n, k, σ, e6, e7, hk, hv => by
    have ql := x_lenLoc (two_m (st := st0) (L := L) (X := seenK σ.1) (Y := .lst (σ.2.map nD)) hm)
    have stop : ¬ k < σ.2.length → ∃ (k' : Int) (e6' e7' : Option D),
        sWhile c_found_parts_0 b_found_parts_1 [some (sysD ps), e1, some (.loc L), e3, some (.loc m), some (.int (k : Int)), e6, e7] (two st0 L m (seenK σ.1) (.lst (σ.2.map nD))) =
          .nx [some (sysD ps), e1, some (.loc L), e3, some (.loc m), some (.int k'), e6', e7'] (two st0 L m (seenK σ.1) (.lst (σ.2.map nD))) := fun h => by
      refine ⟨k, e6, e7, ?_⟩
      rw [sWhile_eq]
      simp [c_found_parts_0, ql, h]
    cases n with
    | zero =>
      exact stop (by have := hv.len2; omega)
    | succ n =>
      rw [bfs]
      cases hx : σ.2[k]? with
      | none =>
        exact stop (by have := List.getElem?_eq_none_iff.mp hx; omega)
      | some x =>
        have hxl := (List.getElem?_eq_some_iff.mp hx).1
        have hxd : x < d := hv.lt x (hv.sub x (List.mem_of_getElem? hx))
        obtain ⟨e6', e7', q1⟩ := fp_inner (e0 := some (sysD ps)) (e1 := e1) (e3 := e3) hL hl hm hxd hd ps σ e6 e7 hx hv
        obtain ⟨k', e6'', e7'', q2⟩ := fp_while (ps := ps) (e1 := e1) (e3 := e3) hL hl hm hd n (k + 1) (ps.foldl (vis x) σ) e6' e7' (by omega) (hv.fold hxd ps)
        refine ⟨k', e6'', e7'', ?_⟩
        rw [← q2, sWhile_eq]
        have f1 := fIx1 (ps := ps) (st := two st0 L m (seenK σ.1) (.lst (σ.2.map nD)))
        obtain ⟨SS, hSS⟩ : ∃ SS, SS = sysD ps := ⟨_, rfl⟩
        obtain ⟨XS, hX⟩ : ∃ XS, XS = ps.map tp := ⟨_, rfl⟩
        have eR : rD ps = .tup XS := by rw [hX]; rfl
        rw [eR, ← hSS] at f1
        rw [← hX, ← hSS] at q1
        rw [← hSS]
        simp [c_found_parts_0, ql, hxl, b_found_parts_1, f1, q1, x_sAug]
theorem fp_outer {ps : List (Pm d)} {st : Store} (hd : d ≤ 900) : ∀ (n j : Nat) (t : List Nat × List (List Nat)) (g : Store) (e3 e4 e5 e6 e7 : Option D), j + n = d → t.1.Nodup → (∀ x ∈ t.1, x < d) → t.2.length ≤ j → ∃ (g' : Store) (e3' e4' e5' e6' e7' : Option D),
    forS (gN 3) b_found_parts_2 ((List.range' j n).map nD) [some (sysD ps), some (.loc st.length), some (.loc (st.length + 1)), e3, e4, e5, e6, e7] (st ++ .lst (t.2.map partD) :: seenK t.1 :: g) =
      .nx [some (sysD ps), some (.loc st.length), some (.loc (st.length + 1)), e3', e4', e5', e6', e7'] (st ++ .lst (((List.range' j n).foldl (out1 ps) t).2.map partD) :: seenK ((List.range' j n).foldl (out1 ps) t).1 :: g')
  | 0, j, t, g, e3, e4, e5, e6, e7, _, _, _, _ => ⟨g, e3, e4, e5, e6, e7, rfl⟩
  | n + 1, j, t, g, e3, e4, e5, e6, e7, hj, hn, hlt, htl => by
    have hjd : j < d := by omega
    have htd : t.1.length ≤ d := by
      have := nodup_len (D := List.range d) hn fun x hx => List.mem_range.mpr (hlt x hx)
      simpa using this
    rw [List.range'_succ, List.map_cons, List.foldl_cons, x_forS_cons]
    have q0 := fDIn_not (seenK_in (y := j) (st := st ++ .lst (t.2.map partD) :: seenK t.1 :: g) (L := st.length + 1) (seen := t.1) (by simp))
    by_cases c : j ∈ t.1
    · have eo : out1 ps t j = t := by rw [out1, if_pos c]
      obtain ⟨g', a3, a4, a5, a6, a7, ih⟩ := fp_outer (ps := ps) (st := st) hd n (j + 1) t g (some (nD j)) e4 e5 e6 e7 (by omega) hn hlt (by omega)
      refine ⟨g', a3, a4, a5, a6, a7, ?_⟩
      rw [eo, ← ih]
      simp [b_found_parts_2, q0, c]
    · have hv : Inv2 d (t.1 ++ [j], [j]) := ⟨nodup_snoc hn c, fun z hz => by
        rcases List.mem_append.mp hz with hz | hz
        · exact hlt z hz
        · rw [List.mem_singleton] at hz; omega, by simp, fun z hz => List.mem_append_right _ hz⟩
      have hv' := hv.bfs (ps := ps) d 0
      have eo : out1 ps t j = ((bfs ps d 0 (t.1 ++ [j], [j])).1, t.2 ++ [(bfs ps d 0 (t.1 ++ [j], [j])).2]) := by rw [out1, if_neg c]
      obtain ⟨S0, hS0⟩ : ∃ S0, S0 = st ++ .lst (t.2.map partD) :: seenK t.1 :: (g ++ [.lst [nD j]]) := ⟨_, rfl⟩
      have hl0 : S0.length = st.length + 2 + g.length + 1 := by rw [hS0]; simp; omega
      have hm0 : st.length + 1 ≠ st.length + 2 + g.length := by omega
      have w (X Y : O) : two S0 (st.length + 1) (st.length + 2 + g.length) X Y = st ++ .lst (t.2.map partD) :: X :: (g ++ [Y]) := by
        rw [hS0, two, List.set_append_right _ _ (by omega), List.set_append_right _ _ (by omega)]
        rw [show st.length + 1 - st.length = 0 + 1 by omega, show st.length + 2 + g.length - st.length = g.length + 1 + 1 by omega]
        rw [List.set_cons_succ, List.set_cons_zero, List.set_cons_succ, List.set_cons_succ, List.set_append_right _ _ (by omega), Nat.sub_self]; rfl
      obtain ⟨k', a6, a7, qw⟩ := fp_while (ps := ps) (st0 := S0) (L := st.length + 1) (m := st.length + 2 + g.length) (e1 := some (.loc st.length)) (e3 := some (nD j)) hm0 (by omega) (by omega) hd d 0 (t.1 ++ [j], [j]) e6 e7 (by omega) hv
      obtain ⟨ρ, hρ⟩ : ∃ ρ, ρ = bfs ps d 0 (t.1 ++ [j], [j]) := ⟨_, rfl⟩
      rw [← hρ] at qw hv' eo
      have em : ([j] : List Nat).map nD = [nD j] := rfl
      simp only [em, w] at qw
      obtain ⟨g', b3, b4, b5, b6, b7, ih⟩ := fp_outer (ps := ps) (st := st) hd n (j + 1) (ρ.1, t.2 ++ [ρ.2]) (g ++ [.lst (ρ.2.map nD)]) (some (nD j)) (some (.loc (st.length + 2 + g.length))) (some (.int k')) a6 a7 (by omega) hv'.nd hv'.lt (by simp; omega)
      refine ⟨g', b3, b4, b5, b6, b7, ?_⟩
      rw [eo, ← ih]
      have q1 := seenK_set (st := st ++ .lst (t.2.map partD) :: seenK t.1 :: g) (L := st.length + 1) (y := j) (seen := t.1) (by simp) c (by omega)
      rw [List.set_append_right _ _ (by omega), show st.length + 1 - st.length = 0 + 1 by omega, List.set_cons_succ, List.set_cons_zero] at q1
      have q2 := x_sortedLoc (st := st ++ .lst (t.2.map partD) :: seenK ρ.1 :: (g ++ [.lst (ρ.2.map nD)])) (m := st.length + 2 + g.length) (l := ρ.2) (by rw [List.getElem?_append_right (by omega), show st.length + 2 + g.length - st.length = g.length + 1 + 1 by omega]; simp)
      have q3 := x_app (st := st ++ .lst (t.2.map partD) :: seenK ρ.1 :: (g ++ [.lst (ρ.2.map nD)])) (n := st.length) (xs := t.2.map partD) (d := partD ρ.2) (by simp) (small1000 (by simp; omega))
      have q4 : (st ++ .lst (t.2.map partD) :: seenK ρ.1 :: (g ++ [.lst (ρ.2.map nD)]))[st.length]? = some (.lst (t.2.map partD)) := by simp
      have w2 : (st ++ .lst (t.2.map partD) :: seenK ρ.1 :: (g ++ [.lst (ρ.2.map nD)])).set st.length (.lst (t.2.map partD ++ [partD ρ.2])) = st ++ .lst ((t.2 ++ [ρ.2]).map partD) :: seenK ρ.1 :: (g ++ [.lst (ρ.2.map nD)]) := by
        rw [List.set_append_right _ _ (by omega), Nat.sub_self, List.set_cons_zero, List.map_append]; rfl
      rw [w2] at q3
      have el : st.length + (g.length + 1 + 1) = st.length + 2 + g.length := by omega
      have pd : partD ρ.2 = .tup ((sortI (ρ.2.map fun (k : Nat) => (k : Int))).map D.int) := rfl
      have i0 : ((0 : Nat) : Int) = 0 := rfl
      rw [i0] at qw
      rw [pd] at q3
      simp [b_found_parts_2, q0, c, el, q1, qw, q2, Fx.listOf, q4, q3]
theorem found_parts_eq {ps : List (Pm d)} {st : Store} (hd : d ≤ 900) : S_found_parts A [sysD ps] st = .ok (.lst ((parts ps).map partD)) st := by
  obtain ⟨g', a3, a4, a5, a6, a7, e⟩ := fp_outer (ps := ps) (st := st) hd d 0 ([], []) [] none none none none none (by omega) .nil (by simp) (by simp)
  rw [← List.range_eq_range', ← range_nD] at e
  have z : w62 (d : Int) = true := w62_of (by omega) (by omega)
  have ek : seenK [] = .dk [] := rfl
  rw [S_found_parts_eq]
  refine gc_lst (.lst ((parts ps).map partD) :: seenK ((List.range d).foldl (out1 ps) ([], [])).1 :: g') (runF_rt ?_) (Nat.le_refl _) (by simp) (wf_lfs _ (by simp [lfs_all, List.all_map]))
  simp only [List.map_nil, ek] at e
  have f0 := fIx0 (ps := ps) (st := st ++ [.lst [], .dk []])
  obtain ⟨SS, hSS⟩ : ∃ SS, SS = sysD ps := ⟨_, rfl⟩
  rw [← hSS] at e f0 ⊢
  rw [parts]
  simp [m_found_parts, N_found_parts, z, f0, e]
theorem len_parts {ps : List (Pm d)} {st : Store} : fLen [.lst ((parts ps).map partD)] st = .ok (.int ((parts ps).length : Int)) st := by simp
theorem len_partsT {ps : List (Pm d)} {st : Store} : fLen [.tup ((parts ps).map partD)] st = .ok (.int ((parts ps).length : Int)) st := by simp
def connB (ps : List (Pm d)) : Bool := decide ((parts ps).length = 1)
theorem has_one_part_eq {ps : List (Pm d)} {st : Store} (hd : d ≤ 900) : S_has_one_part A [sysD ps] st = .ok (.bl (connB ps)) st := by
  have q1 := found_parts_eq (A := A) (ps := ps) (st := st) hd
  have q2 := len_parts (ps := ps) (st := st)
  obtain ⟨PL, hPL⟩ : ∃ PL, PL = D.lst ((parts ps).map partD) := ⟨_, rfl⟩
  rw [← hPL] at q1 q2
  rw [S_has_one_part_eq]
  refine gc_ok [] (runF_rt ?_) (by simp [WfD])
  have e : decide (((parts ps).length : Int) = 1) = connB ps := by
    unfold connB
    by_cases c : (parts ps).length = 1
    · rw [decide_eq_true c, decide_eq_true (by omega)]
    · rw [decide_eq_false c, decide_eq_false (by omega)]
  obtain ⟨n, hn⟩ : ∃ n : Int, n = ((parts ps).length : Int) := ⟨_, rfl⟩
  rw [← hn] at q2 e
  simp [m_has_one_part, N_has_one_part, q1, q2, e]
theorem law_is_connected_eq {ps : List (Pm d)} {st : Store} (hd : d ≤ 900) : S_law_is_connected A [sysD ps] st = .ok (.bl (connB ps)) st := by
  have q1 := law_parts_eq (A := A) (ps := ps) (st := st) hd
  have q2 := len_partsT (ps := ps) (st := st)
  obtain ⟨PL, hPL⟩ : ∃ PL, PL = D.tup ((parts ps).map partD) := ⟨_, rfl⟩
  rw [← hPL] at q1 q2
  rw [S_law_is_connected_eq]
  refine gc_ok [] (runF_rt ?_) (by simp [WfD])
  have e : decide (((parts ps).length : Int) = 1) = connB ps := by
    unfold connB
    by_cases c : (parts ps).length = 1
    · rw [decide_eq_true c, decide_eq_true (by omega)]
    · rw [decide_eq_false c, decide_eq_false (by omega)]
  obtain ⟨n, hn⟩ : ∃ n : Int, n = ((parts ps).length : Int) := ⟨_, rfl⟩
  rw [← hn] at q2 e
  simp [m_law_is_connected, N_law_is_connected, q1, q2, e]
theorem cut_init {xs : List D} : cutD xs none (some (-1)) = xs.dropLast := by
  unfold cutD
  rw [HT.sIx_none]
  have : HT.sIx xs.length xs.length (some (-1)) = xs.length - 1 := by
    show (if (-1 : Int) < 0 then (-1 + (xs.length : Int)).toNat else min (-1 : Int).toNat xs.length) = _
    rw [if_pos (by decide : (-1 : Int) < 0)]; omega
  rw [this, List.drop_zero, Nat.sub_zero, List.dropLast_eq_take]
theorem wfs_stt {s t : Int} : WfS [stt 0 0].length [stt s t] := fun i o h => by
  cases i with
  | zero =>
    have : o = stt s t := by simpa using h.symm
    subst this
    simp [stt, WfO, WfDs, WfD]
  | succ i => simp at h
theorem fLen_tp {p : Pm d} {st : Store} : fLen [tp p] st = .ok (.int (d : Int)) st := by simp [tp, lD, p.len]
section
variable {ps : List (Pm d)}
theorem check_connected_of {st : Store} (h : Sys ps) : S_check_connected A [sysD ps] st = if connB ps = true then .ok .non st else .er ⟨A 2, none⟩ st := by
  rw [S_check_connected_eq]
  have q1 := check_system_ok (A := A) (st := st) h
  have q2 := has_one_part_eq (A := A) (ps := ps) (st := st) (by have := h.few; omega)
  cases hb : connB ps with
  | true =>
    rw [hb] at q2
    exact gc_ok [] (runF_nx (τ' := [some (sysD ps)]) (by simp [m_check_connected, N_check_connected, q1, q2])) (by simp [WfD])
  | false =>
    rw [hb] at q2
    exact gc_er [] (runF_er (τ' := [some (sysD ps)]) (by simp [m_check_connected, N_check_connected, q1, q2]))
end
section
variable {ps : List (Pm d)}
def cjF (p f : Pm d) (j : Nat) : List D := (List.range d).map fun y => nD (if f.b y < j then f.f (p.f (f.b y)) else 0)
theorem cjF_zero (p f : Pm d) : cjF p f 0 = List.replicate d (.int 0) := by
  refine List.ext_getElem (by simp [cjF]) fun n h1 h2 => ?_
  simp [cjF]
theorem cjF_all (p f : Pm d) : cjF p f d = (f.inv * (p * f)).list.map nD := by
  refine List.ext_getElem (by simp [cjF, Pm.len]) fun n h1 h2 => ?_
  have hn : n < d := by simpa [cjF] using h1
  simp [cjF, Pm.list, f.blt hn]
theorem cjF_set (p f : Pm d) {j : Nat} (hj : j < d) : (cjF p f j).set (f.f j) (nD (f.f (p.f j))) = cjF p f (j + 1) := by
  refine List.ext_getElem (by simp [cjF]) fun n h1 h2 => ?_
  have hn : n < d := by simpa [cjF] using h2
  rw [List.getElem_set]
  by_cases e : f.f j = n
  · subst e
    simp [cjF, f.bf]
  · rw [if_neg e]
    have : f.b n ≠ j := fun z => e (by rw [← z, f.fb])
    simp only [cjF, List.getElem_map, List.getElem_range]
    congr 1
    by_cases c : f.b n < j
    · rw [if_pos c, if_pos (by omega)]
    · rw [if_neg c, if_neg (by omega)]
theorem renumbered_eq {p f : Pm d} {st : Store} (hd : d ≤ 1000) : S_law_renumbered A [tp p, tp f] st = .ok (tp (f.inv * (p * f))) st := by
  have key := forS_ind (g := gN 3) (b := B_law_renumbered_0 A)
    (P := fun ds τ st' => ∃ (m : Nat) (τ3 : Option D), τ = [some (tp p), some (tp f), some (.loc st.length), τ3] ∧ st' = st ++ [.lst (cjF p f m)] ∧ m ≤ d ∧ ds = (List.range' m (d - m)).map nD)
    (fun y ys τ st' ⟨m, τ3, e1, e2, hm, hds⟩ => by
      subst e1 e2
      have hlt : m < d := by
        refine Nat.lt_of_not_le fun z => ?_
        rw [show d - m = 0 by omega] at hds
        cases hds
      rw [show d - m = (d - (m + 1)) + 1 by omega, List.range'_succ, List.map_cons, List.cons.injEq] at hds
      obtain ⟨rfl, rfl⟩ := hds
      refine ⟨_, rfl, _, st ++ [.lst (cjF p f (m + 1))], .inl ?_, m + 1, some (nD m), rfl, rfl, hlt, rfl⟩
      have q1 : ∀ s, fIx (tp p) (nD m) s = .ok (nD (p.f m)) s := fun s => by rw [tp, lD, nD, x_ixT, atI_tp _ hlt]
      have q2 : ∀ s, fIx (tp f) (nD m) s = .ok (nD (f.f m)) s := fun s => by rw [tp, lD, nD, x_ixT, atI_tp _ hlt]
      have q3 : ∀ s, fIx (tp f) (nD (p.f m)) s = .ok (nD (f.f (p.f m))) s := fun s => by rw [tp, lD, nD, x_ixT, atI_tp _ (p.lt hlt)]
      have q4 := set_last (st := st) (v := nD (f.f (p.f m))) (k := f.f m) (xs := cjF p f m) (by simp [cjF]; exact f.lt hlt)
      rw [cjF_set p f hlt] at q4
      simp only [nD] at q1 q2 q3 q4 ⊢
      simp [b_law_renumbered_0, q1, q2, q3, q4])
    (rangeD 0 (d : Int)) [some (tp p), some (tp f), some (.loc st.length), none] (st ++ [.lst (cjF p f 0)]) ⟨0, none, rfl, rfl, Nat.zero_le _, by rw [range_nD, List.range_eq_range']; rfl⟩
  obtain ⟨τ', st', e, m, τ3, e1, e2, hm, hds⟩ := key
  subst e1 e2
  have hm2 : m = d := by
    have := congrArg List.length hds
    simp at this; omega
  subst hm2
  have c : compS (gN 3) mYes e_law_renumbered_0 [3] (p.list.map nD) [some (tp p), some (tp f), none, none] st [] = .ok (List.replicate m (.int 0)) st := by
    rw [compS_map (f := fun _ => .int 0)]
    · rw [List.nil_append, List.map_map]; exact congrArg (Rs.ok · st) (List.eq_replicate_iff.mpr ⟨by simp [Pm.len], fun b hb => by obtain ⟨_, _, rfl⟩ := List.mem_map.mp hb; rfl⟩)
    · intro x _; exact ⟨_, rfl, rfl, by simp [e_law_renumbered_0]⟩
    · simpa [Pm.len] using small hd
  rw [← cjF_zero p f] at c
  rw [cjF_all] at e
  rw [S_law_renumbered_eq]
  refine gc_ok [.lst ((f.inv * (p * f)).list.map nD)] (runF_rt ?_) (wf_lf _ (lf_tp _))
  have z2 : w62 (m : Int) = true := w62_of (by omega) (by omega)
  have ql : ∀ s, fLen [tp p] s = .ok (.int (m : Int)) s := fun s => fLen_tp
  have qt := x_tupleLoc (st := st ++ [.lst ((f.inv * (p * f)).list.map nD)]) (i := st.length) (xs := (f.inv * (p * f)).list.map nD) (by simp)
  have zq : szFits ((f.inv * (p * f)).list.map nD).length = true := szFits_of (by simp [Pm.len]; omega)
  obtain ⟨C0, hC0⟩ : ∃ C0, C0 = cjF p f 0 := ⟨_, rfl⟩
  obtain ⟨C1, hC1⟩ : ∃ C1, C1 = (f.inv * (p * f)).list.map nD := ⟨_, rfl⟩
  have hR : tp (f.inv * (p * f)) = .tup C1 := by rw [hC1]; rfl
  rw [← hC0] at c e
  rw [← hC1] at e qt zq
  rw [hR]
  obtain ⟨XP, hXP⟩ : ∃ XP, XP = p.list.map nD := ⟨_, rfl⟩
  have eP : tp p = .tup XP := by rw [hXP]; rfl
  rw [← hXP] at c
  rw [eP] at c e ql ⊢
  simp [m_law_renumbered, N_law_renumbered, ql, z2, c, e, qt]
  exact hC1
theorem turned_system_eq {f : Pm d} {st : Store} (hd : d ≤ 1000) (hl : ps.length ≤ 1000) : S_law_turned_system A [sysD ps, tp f] st = .ok (sysD (ps.map fun p => f.inv * (p * f))) st := by
  have c : compS (gN 2) mYes (e_law_turned_system_0 (S_law_renumbered A)) [2] (ps.map tp) [some (sysD ps), some (tp f), none] st [] = .ok (ps.map fun p => tp (f.inv * (p * f))) st := by
    rw [compS_mapL (h := tp) (f := fun p => tp (f.inv * (p * f)))]
    · simp
    · intro p hp
      exact ⟨_, rfl, rfl, by simp [e_law_turned_system_0, renumbered_eq hd]⟩
    · simpa using small hl
  have zq : szFits (ps.map fun p => tp (f.inv * (p * f))).length = true := szFits_of (by simp; omega)
  have hR : sysD (ps.map fun p => f.inv * (p * f)) = .tup [.int (d : Int), .tup (ps.map fun p => tp (f.inv * (p * f)))] := by
    rw [sysD, rD, List.map_map]; rfl
  have f1 := fIx1 (ps := ps) (st := st)
  have er : rD ps = .tup (ps.map tp) := rfl
  rw [er] at f1
  rw [S_law_turned_system_eq]
  refine gc_ok [] (runF_rt ?_) (wf_lf _ lf_sysD)
  rw [hR]
  obtain ⟨XP, hXP⟩ : ∃ XP, XP = ps.map tp := ⟨_, rfl⟩
  obtain ⟨XQ, hXQ⟩ : ∃ XQ, XQ = ps.map fun p => tp (f.inv * (p * f)) := ⟨_, rfl⟩
  rw [← hXP, ← hXQ] at c
  rw [← hXP] at f1
  rw [← hXQ] at zq ⊢
  simp [m_law_turned_system, N_law_turned_system, fIx0, f1, c, zq]
end
theorem inner_wD {n : Nat} {is : List Int} {st : Store} (h : is.length ≤ 1000) : S_law_inner A (n + 2) [wD is] st = .ok (wD is) st := by
  refine inner_tup (fun x hx => ?_) (by simpa using h) lf_wD
  obtain ⟨i, _, rfl⟩ := List.mem_map.mp hx
  exact inner_int
theorem plain_tup {xs : List D} {st : Store} (h : S_law_inner A 4 [.tup xs] st = .ok (.tup xs) st) (hf : lf (.tup xs) = true) : S_law_plain A [.tup xs] st = .ok (.tup xs) st := by
  rw [S_law_plain_eq]
  refine gc_ok [] (runF_rt ?_) (wf_lf _ hf)
  simp [m_law_plain, N_law_plain, h]
theorem plain_int {i : Int} {st : Store} : S_law_plain A [.int i] st = .ok (.int i) st := by
  rw [S_law_plain_eq]
  refine gc_ok [] (runF_rt ?_) (by simp [WfD])
  simp [m_law_plain, N_law_plain, inner_int (A := A) (n := 3) (i := i) (st := st)]
end K25

set_option Elab.async false
set_option linter.all false
set_option maxRecDepth 100000
set_option maxHeartbeats 4000000
namespace K25
open PySem L2 Fx
variable {A : Nat → Addr} {d : Nat}
theorem step_eq {ps : List (Pm d)} {x : Nat} {i : Int} {st : Store} (hd : d ≤ 1000) (hi : 1 ≤ i.natAbs ∧ i.natAbs ≤ ps.length) (hx : x < d) : S_law_step A [sysD ps, nD x, .int i] st = .ok (nD ((act ps i).f x)) st := by
  have hlt : i.natAbs - 1 < ps.length := by omega
  have ep : ps.getD (i.natAbs - 1) Pm.one = ps[i.natAbs - 1] := by rw [List.getD_eq_getElem?_getD, List.getElem?_eq_getElem hlt]; rfl
  have q1 : fIx (rD ps) (.int (((i.natAbs - 1 : Nat) : Nat) : Int)) st = .ok (tp ps[i.natAbs - 1]) st := by
    rw [rD, x_ixT, atI_map (List.getElem?_eq_getElem hlt)]
  obtain ⟨p, hp⟩ : ∃ p, p = ps[i.natAbs - 1] := ⟨_, rfl⟩
  rw [← hp] at ep q1
  have q2 : fIx (tp p) (nD x) st = .ok (nD (p.f x)) st := by rw [tp, lD, x_ixT, atI_tp _ hx]
  have q3 : fIx (tp p.inv) (nD x) st = .ok (nD (p.inv.f x)) st := by rw [tp, lD, x_ixT, atI_tp _ hx]
  have q4 := law_inverse_eq (A := A) (p := p) (st := st) hd
  obtain ⟨m, hm⟩ : ∃ m : Int, m = ((i.natAbs - 1 : Nat) : Int) := ⟨_, rfl⟩
  rw [← hm] at q1
  have ea : (if i < 0 then -i else i) - 1 = m := by rw [hm]; split <;> omega
  rw [S_law_step_eq]
  refine gc_ok [] (runF_rt ?_) (by simp [WfD])
  simp only [nD] at q2 q3 ⊢
  by_cases c : 0 < i
  · rw [show act ps i = p by rw [act, if_pos c, ep]]
    simp [m_law_step, N_law_step, fIx1, ea, q1, c, q2]
  · rw [show act ps i = p.inv by rw [act, if_neg c, ep]]
    simp [m_law_step, N_law_step, fIx1, ea, q1, c, q4]
    simp at q3
    simp [q3]
theorem law_walk_eq {ps : List (Pm d)} {is : List Int} {st : Store} {x : Nat} (hd : d ≤ 1000) (hi : ∀ i ∈ is, 1 ≤ i.natAbs ∧ i.natAbs ≤ ps.length) (hx : x < d) : S_law_walk A [sysD ps, nD x, wD is] st = .ok (nD ((wact ps is).f x)) st := by
  have key := forS_ind (g := gN 3) (b := B_law_walk_0 A)
    (P := fun ds τ st' => ∃ (y : Nat) (js : List Int) (τ3 : Option D), τ = [some (sysD ps), some (nD y), some (wD is), τ3] ∧ st' = st ∧ ds = js.map D.int ∧ y < d ∧ (∀ i ∈ js, 1 ≤ i.natAbs ∧ i.natAbs ≤ ps.length) ∧ (wact ps js).f y = (wact ps is).f x)
    (fun y ys τ st' ⟨v, js, τ3, e1, e2, e3, hv, hj, hf⟩ => by
      subst e1 e2
      cases js with
      | nil => simp at e3
      | cons j js =>
        simp only [List.map_cons, List.cons.injEq] at e3
        obtain ⟨rfl, rfl⟩ := e3
        have q := step_eq (A := A) (st := st') hd (hj j List.mem_cons_self) hv
        refine ⟨_, rfl, _, st', .inl ?_, (act ps j).f v, js, some (.int j), rfl, rfl, rfl, (act ps j).lt hv, fun i hi => hj i (List.mem_cons_of_mem _ hi), by rw [wact_cons] at hf; exact hf⟩
        simp only [nD] at q
        simp [b_law_walk_0, q])
    (is.map D.int) [some (sysD ps), some (nD x), some (wD is), none] st ⟨x, is, none, rfl, rfl, rfl, hx, hi, rfl⟩
  obtain ⟨τ', st', e, v, js, τ3, e1, e2, e3, hv, hj, hf⟩ := key
  subst e1 e2
  have : js = [] := by cases js with
    | nil => rfl
    | cons a b => simp at e3
  subst this
  have hf' : v = (wact ps is).f x := hf
  rw [S_law_walk_eq, ← hf']
  refine gc_ok [] (runF_rt ?_) (by simp [WfD])
  obtain ⟨WS, hWS⟩ : ∃ WS, WS = is.map D.int := ⟨_, rfl⟩
  have eW : wD is = .tup WS := by rw [hWS]; rfl
  rw [← hWS, eW] at e
  rw [eW]
  simp [m_law_walk, N_law_walk] at e ⊢
  simp [e]
section
variable {ps : List (Pm d)} {x0 : Nat}
theorem letters_eq {k : Nat} {st : Store} (hk : k ≤ 12) : S_law_letters A [.int (k : Int)] st = .ok (.lst ((ltrs k).map D.int)) st := by
  have key := forS_ind (g := gN 2) (b := B_law_letters_0 A)
    (P := fun ds τ st' => ∃ (m : Nat) (g : Store) (n : Nat) (τ2 : Option D), τ = [some (.int (k : Int)), some (.loc n), τ2] ∧ st' = st ++ g ∧ st.length ≤ n ∧ (st ++ g)[n]? = some (.lst ((ltrs m).map D.int)) ∧ m ≤ k ∧ ds = (List.range' m (k - m)).map fun (i : Nat) => .int ((i : Int) + 1))
    (fun y ys τ st' ⟨m, g, n, τ2, e1, e2, hn, hg, hm, hd⟩ => by
      subst e1 e2
      have hlt : m < k := by
        refine Nat.lt_of_not_le fun z => ?_
        rw [show k - m = 0 by omega] at hd
        cases hd
      rw [show k - m = (k - (m + 1)) + 1 by omega, List.range'_succ, List.map_cons, List.cons.injEq] at hd
      obtain ⟨rfl, rfl⟩ := hd
      have qs := x_strict hg
      have z : szFits ((ltrs m).length + 2) = true := szFits_of (by rw [ltrs_len]; omega)
      refine ⟨_, rfl, _, st ++ (g ++ [.lst ((ltrs (m + 1)).map D.int)]), .inl ?_, m + 1, g ++ [.lst ((ltrs (m + 1)).map D.int)], (st ++ g).length, some (.int ((m : Int) + 1)), rfl, rfl, by simp, ?_, hlt, rfl⟩
      · rw [ltrs_succ]
        simp [b_law_letters_0, qs, z]
      · rw [← List.append_assoc]; simp only [st_get0, List.getElem?_cons_zero])
    (rangeD 1 ((k : Int) + 1)) [some (.int (k : Int)), some (.loc st.length), none] (st ++ [.lst []]) ⟨0, [.lst []], st.length, none, rfl, rfl, Nat.le_refl _, by simp [ltrs], Nat.zero_le _, by
      rw [rangeD, ← List.range_eq_range']
      rw [show ((k : Int) + 1 - 1).toNat = k by omega]
      refine List.map_congr_left fun i _ => ?_
      rw [Int.add_comm]⟩
  obtain ⟨τ', st', e, m, g, n, τ2, e1, e2, hn, hg, hm, hd⟩ := key
  subst e1 e2
  have hm2 : m = k := by
    have := congrArg List.length hd
    simp at this; omega
  subst hm2
  rw [S_law_letters_eq]
  have z1 : w62 1 = true := w62_of (by omega) (by omega)
  have z2 : w62 ((m : Int) + 1) = true := w62_of (by omega) (by omega)
  refine gc_lst g (runF_rt ?_) hn hg (wf_lfs _ (by simp [lfs_all, List.all_map]))
  simp [m_law_letters, N_law_letters, z1, z2, e]
abbrev Wk (ps : List (Pm d)) (x0 : Nat) (F : List Ent) : Prop := Wok (stp ps) (ltrs ps.length) x0 d F
theorem ll_inner {st0 : Store} {L m k : Nat} {e1 e4 : Option D} {e : Ent} (hL : L ≠ m) (hl : L < st0.length) (hm : m < st0.length) (hd : d ≤ 24) : ∀ (l : List Int) (F : List Ent) (e6 e7 : Option D), (∀ i ∈ l, i ∈ ltrs ps.length) → F[k]? = some e → Wk ps x0 F → ∃ e6' e7',
    forS (gN 6) (B_law_leading_0 A) (l.map D.int) [some (sysD ps), e1, some (.loc L), some (.loc m), e4, some (.int (k : Int)), e6, e7] (two st0 L m (.dk (kvE F)) (.lst (ordL F))) =
      .nx [some (sysD ps), e1, some (.loc L), some (.loc m), e4, some (.int (k : Int)), e6', e7'] (two st0 L m (.dk (kvE (l.foldl (vw (stp ps) e.1 e.2) F))) (.lst (ordL (l.foldl (vw (stp ps) e.1 e.2) F))))
  | [], F, e6, e7, _, _, _ => ⟨e6, e7, rfl⟩
  | i :: l, F, e6, e7, hi, hk, hv => by
    have hem := List.mem_of_getElem? hk
    have hx : e.1 < d := hv.lt e hem
    have hil := ltrs_mem.mp (hi i List.mem_cons_self)
    have hk' : (vw (stp ps) e.1 e.2 F i)[k]? = some e := by
      unfold vw
      split
      · exact hk
      · rw [List.getElem?_append_left (List.getElem?_eq_some_iff.mp hk).1]; exact hk
    obtain ⟨e6', e7', ih⟩ := ll_inner (e1 := e1) (e4 := e4) hL hl hm hd l (vw (stp ps) e.1 e.2 F i) (some (.int i)) (some (nD ((act ps i).f e.1))) (fun j hj => hi j (List.mem_cons_of_mem _ hj)) hk' (hv.vw stp_lt hem (hi i List.mem_cons_self))
    refine ⟨e6', e7', ?_⟩
    rw [List.map_cons, x_forS_cons, List.foldl_cons, ← ih]
    have q1 := ord_get (two_m (st := st0) (L := L) (X := .dk (kvE F)) (Y := .lst (ordL F)) hm) hk
    have q2 := step_eq (A := A) (ps := ps) (i := i) (st := two st0 L m (.dk (kvE F)) (.lst (ordL F))) (by omega) hil hx
    have h0 := two_L (st := st0) (X := .dk (kvE F)) (Y := .lst (ordL F)) hL hl
    have q3 := kvE_notin (y := (act ps i).f e.1) h0
    have hc := hv.card
    by_cases c : (act ps i).f e.1 ∈ F.map (·.1)
    · have ev : vw (stp ps) e.1 e.2 F i = F := by rw [vw, if_pos c]
      rw [ev]
      rw [decide_eq_true c] at q3
      simp only [nD] at q1 q2 q3 ⊢
      simp [b_law_leading_0, q1, q2, q3]
    · have ev : vw (stp ps) e.1 e.2 F i = F ++ [((act ps i).f e.1, e.2 ++ [i])] := by rw [vw, if_neg c]
      rw [ev]
      rw [decide_eq_false c] at q3
      have q4 := kvE_get h0 (List.mem_map.mpr ⟨e, hem, rfl⟩)
      rw [wordOf_of hv.nod hem] at q4
      have q5 := add_w1 (w := e.2) (i := i) (st := two st0 L m (.dk (kvE F)) (.lst (ordL F))) (by have := hv.len e hem; omega)
      have q6 := kvE_set (w := e.2 ++ [i]) h0 c (by omega)
      rw [two_setL hL] at q6
      have h1 := two_m (st := st0) (L := L) (X := .dk (kvE (F ++ [((act ps i).f e.1, e.2 ++ [i])]))) (Y := .lst (ordL F)) hm
      have q7 := ord_app (y := (act ps i).f e.1) (w := e.2 ++ [i]) h1 (by omega)
      rw [two_setm] at q7
      have hlo : Fx.listOf (.loc m) (two st0 L m (.dk (kvE (F ++ [((act ps i).f e.1, e.2 ++ [i])]))) (.lst (ordL F))) = some (ordL F) := by simp only [Fx.listOf, h1]
      simp only [nD] at q1 q2 q3 q4 q6 q7 ⊢
      simp [b_law_leading_0, q1, q2, q3, q4, q5, q6, q7, hlo]
theorem ll_while {st0 : Store} {L m : Nat} {e1 : Option D} (hL : L ≠ m) (hl : L < st0.length) (hm : m < st0.length) (hd : d ≤ 24) : ∀ (n k : Nat) (F : List Ent) (e6 e7 : Option D), d ≤ k + n → Wk ps x0 F → ∃ (k' : Int) (e6' e7' : Option D),
    sWhile c_law_leading_0 (B_law_leading_1 A) [some (sysD ps), e1, some (.loc L), some (.loc m), some (.lst ((ltrs ps.length).map D.int)), some (.int (k : Int)), e6, e7] (two st0 L m (.dk (kvE F)) (.lst (ordL F))) =
      .nx [some (sysD ps), e1, some (.loc L), some (.loc m), some (.lst ((ltrs ps.length).map D.int)), some (.int k'), e6', e7'] (two st0 L m (.dk (kvE (lbf (stp ps) (ltrs ps.length) n k F))) (.lst (ordL (lbf (stp ps) (ltrs ps.length) n k F))))
  | n, k, F, e6, e7, hk, hv => by
    have ql := x_lenLoc (two_m (st := st0) (L := L) (X := .dk (kvE F)) (Y := .lst (ordL F)) hm)
    have eo : (ordL F).length = F.length := by simp [ordL]
    rw [eo] at ql
    have hc := hv.card
    have stop : ¬ k < F.length → ∃ (k' : Int) (e6' e7' : Option D),
        sWhile c_law_leading_0 (B_law_leading_1 A) [some (sysD ps), e1, some (.loc L), some (.loc m), some (.lst ((ltrs ps.length).map D.int)), some (.int (k : Int)), e6, e7] (two st0 L m (.dk (kvE F)) (.lst (ordL F))) =
          .nx [some (sysD ps), e1, some (.loc L), some (.loc m), some (.lst ((ltrs ps.length).map D.int)), some (.int k'), e6', e7'] (two st0 L m (.dk (kvE F)) (.lst (ordL F))) := fun h => by
      refine ⟨k, e6, e7, ?_⟩
      rw [sWhile_eq]
      simp [c_law_leading_0, ql, h]
    cases n with
    | zero => exact stop (by omega)
    | succ n =>
      rw [lbf]
      cases hx : F[k]? with
      | none => exact stop (by have := List.getElem?_eq_none_iff.mp hx; omega)
      | some e =>
        have hxl := (List.getElem?_eq_some_iff.mp hx).1
        obtain ⟨e6', e7', q1⟩ := ll_inner (A := A) (e1 := e1) (e4 := some (.lst ((ltrs ps.length).map D.int))) hL hl hm hd (ltrs ps.length) F e6 e7 (fun _ h => h) hx hv
        obtain ⟨k', e6'', e7'', q2⟩ := ll_while (e1 := e1) hL hl hm hd n (k + 1) (expE (stp ps) (ltrs ps.length) F e) e6' e7' (by omega) (hv.exp stp_lt (List.mem_of_getElem? hx))
        refine ⟨k', e6'', e7'', ?_⟩
        simp only
        rw [← q2, sWhile_eq]
        obtain ⟨LS, hLS⟩ : ∃ LS, LS = (ltrs ps.length).map D.int := ⟨_, rfl⟩
        rw [← hLS] at q1 ⊢
        simp [c_law_leading_0, ql, hxl, b_law_leading_1, q1, expE]
theorem lead_comp {F : List Ent} {st : Store} {L : Nat} {m : SE} {g : SG} {vs : List Nat} {τ : En} (hd : d ≤ 24) (hF : ∀ y, y < d → y ∈ F.map (·.1)) (hL : st[L]? = some (.dk (kvE F)))
    (h : ∀ y, y < d → ∃ τ1, g (nD y) (wipeE τ vs) = some τ1 ∧ m τ1 st = fDGet (.loc L) (nD y) st) : compS g mYes m vs (rangeD 0 (d : Int)) τ st [] = .ok ((List.range d).map fun y => wD (wordOf F y)) st := by
  rw [range_nD, compS_mapL (h := nD) (f := fun y => wD (wordOf F y))]
  · simp
  · intro y hy
    rw [List.mem_range] at hy
    obtain ⟨τ1, e1, e2⟩ := h y hy
    exact ⟨τ1, e1, rfl, by rw [e2, kvE_get hL (hF y hy)]⟩
  · simpa using small (by omega)
theorem law_leading_eq {st : Store} (hd : d ≤ 24) (hp : ps.length ≤ 12) (hc : (parts ps).length = 1) (hx : x0 < d) : S_law_leading A [sysD ps, nD x0] st = .ok (leadD (lead (stp ps) (ltrs ps.length) d x0) d) st := by
  obtain ⟨k', e6', e7', q1⟩ := ll_while (A := A) (ps := ps) (x0 := x0) (st0 := st ++ [.dk (kvE [(x0, [])]), .lst (ordL [(x0, [])])]) (L := st.length) (m := st.length + 1) (e1 := some (nD x0)) (by omega) (by simp) (by simp) hd d 0 [(x0, [])] none none (by omega) (Wok.one hx)
  have e0 : two (st ++ [.dk (kvE [(x0, [])]), .lst (ordL [(x0, [])])]) st.length (st.length + 1) (.dk (kvE [(x0, [])])) (.lst (ordL [(x0, [])])) = st ++ [.dk (kvE [(x0, [])]), .lst (ordL [(x0, [])])] := by simp [two]
  obtain ⟨R, hR⟩ : ∃ R, R = lead (stp ps) (ltrs ps.length) d x0 := ⟨_, rfl⟩
  rw [show lbf (stp ps) (ltrs ps.length) d 0 [(x0, [])] = R from hR.symm, e0] at q1
  have e2 : two (st ++ [.dk (kvE [(x0, [])]), .lst (ordL [(x0, [])])]) st.length (st.length + 1) (.dk (kvE R)) (.lst (ordL R)) = st ++ [.dk (kvE R), .lst (ordL R)] := by simp [two]
  rw [e2] at q1
  have hall := lead_all hc hx
  rw [← hR] at hall ⊢
  have q2 := letters_eq (A := A) (k := ps.length) (st := st ++ [.dk (kvE [(x0, [])]), .lst (ordL [(x0, [])])]) hp
  have q3 := lead_comp (F := R) (st := st ++ [.dk (kvE R), .lst (ordL R)]) (L := st.length) (g := gN 7) (m := e_law_leading_0) (vs := [7]) (τ := [some (sysD ps), some (nD x0), some (.loc st.length), some (.loc (st.length + 1)), some (.lst ((ltrs ps.length).map D.int)), some (.int k'), e6', e7']) hd hall (by simp) (fun y hy => ⟨_, rfl, by simp [e_law_leading_0]⟩)
  have z : w62 (d : Int) = true := w62_of (by omega) (by omega)
  have kE : kvE [(x0, [])] = [(.inl (x0 : Int), .tup [])] := rfl
  have oE : ordL [(x0, [])] = [nD x0] := rfl
  have zc : szFits ((List.range d).map fun y => wD (wordOf R y)).length = true := szFits_of (by simp; omega)
  rw [S_law_leading_eq]
  refine gc_ok [.dk (kvE R), .lst (ordL R)] (runF_rt ?_) (wf_lf _ (by simp [leadD, List.all_map, wD]))
  rw [kE, oE] at q1 q2
  have i0 : ((0 : Nat) : Int) = 0 := rfl
  rw [i0] at q1
  obtain ⟨LS, hLS⟩ : ∃ LS, LS = (ltrs ps.length).map D.int := ⟨_, rfl⟩
  rw [← hLS] at q1 q2 q3
  obtain ⟨WS, hWS⟩ : ∃ WS, WS = (List.range d).map fun y => wD (wordOf R y) := ⟨_, rfl⟩
  rw [leadD]
  rw [← hWS] at q3 zc ⊢
  simp only [nD] at q1 q2 q3 ⊢
  simp [m_law_leading, N_law_leading, z, q1, q2, q3, fIx0, fIx1, fLen_rD, Fx.keyOf]
end
theorem is_sheet_eq {ps : List (Pm d)} {x : D} {st : Store} (h : pl x = true) : S_is_sheet A [x, sysD ps] st = .ok (.bl (sheetB x d)) st := by
  have hi := is_integer_eq (A := A) (x := x) (st := st) h
  rw [S_is_sheet_eq]
  refine gc_ok [] (runF_rt ?_) (by simp [WfD])
  cases x with
  | int i =>
    by_cases c : 0 ≤ i
    · have e : decide (i < (d : Int)) = decide (0 ≤ i ∧ i < (d : Int)) := by simp [c]
      simp [m_is_sheet, N_is_sheet, hi, isI, c, fIx0]
      rw [sheetB, e]
    · simp [m_is_sheet, N_is_sheet, hi, isI, c, sheetB]
  | _ =>
    first
    | (simp [pl] at h; done)
    | (simp [m_is_sheet, N_is_sheet, hi, isI, sheetB])
theorem check_sheet_eq {ps : List (Pm d)} {x : D} {st : Store} (h : pl x = true) : S_check_sheet A [x, sysD ps] st = if sheetB x d = true then .ok .non st else .er ⟨A 2, none⟩ st := by
  have q := is_sheet_eq (A := A) (ps := ps) (st := st) h
  rw [S_check_sheet_eq]
  cases e : sheetB x d with
  | true => rw [e] at q; exact gc_ok [] (runF_nx (τ' := [some x, some (sysD ps)]) (by simp [m_check_sheet, N_check_sheet, q])) (by simp [WfD])
  | false => rw [e] at q; exact gc_er [] (runF_er (τ' := [some x, some (sysD ps)]) (by simp [m_check_sheet, N_check_sheet, q]))
theorem letter_el {x : D} {k : Nat} {st : Store} {τ0 : Option D} (h : pl x = true) : e_is_word_0 (S_is_integer A) [τ0, some (.int (k : Int)), some x] st = .ok (.bl (letB x k)) st := by
  cases x with
  | int i =>
    have ea : (if i < 0 then -i else i) = (i.natAbs : Int) := by split <;> omega
    by_cases c : 1 ≤ i.natAbs
    · have c' : (1 : Int) ≤ (i.natAbs : Int) := by omega
      have e : decide ((i.natAbs : Int) ≤ (k : Int)) = decide (1 ≤ i.natAbs ∧ i.natAbs ≤ k) := by
        by_cases z : i.natAbs ≤ k
        · rw [decide_eq_true (show (i.natAbs : Int) ≤ (k : Int) by omega), decide_eq_true ⟨c, z⟩]
        · rw [decide_eq_false (show ¬ (i.natAbs : Int) ≤ (k : Int) by omega), decide_eq_false (by omega)]
      obtain ⟨m, hm⟩ : ∃ m : Int, m = (i.natAbs : Int) := ⟨_, rfl⟩
      rw [← hm] at ea c' e
      simp [e_is_word_0, is_integer_eq h, isI, ea, c']
      rw [letB, ← e]
    · have c' : ¬ (1 : Int) ≤ (i.natAbs : Int) := by omega
      have e : letB (.int i) k = false := by simp [letB, c]
      obtain ⟨m, hm⟩ : ∃ m : Int, m = (i.natAbs : Int) := ⟨_, rfl⟩
      rw [← hm] at ea c'
      simp [e_is_word_0, is_integer_eq h, isI, ea, c', e]
  | _ =>
    first
    | (simp [pl] at h; done)
    | (simp [e_is_word_0, is_integer_eq h, isI, letB])
theorem is_word_eq {x : D} {k : Nat} {st : Store} (h : okW x) (hk : k ≤ 12) : S_is_word A [x, .int (k : Int)] st = .ok (.bl (wordB x k)) st := by
  have hi := is_integer_eq (A := A) (x := .int (k : Int)) (st := st) rfl
  have k1 : (0 : Int) ≤ (k : Int) := by omega
  have k2 : (k : Int) ≤ 12 := by omega
  rw [S_is_word_eq]
  refine gc_ok [] (runF_rt ?_) (by simp [WfD])
  obtain ⟨hp, hx⟩ := h
  cases x with
  | tup xs =>
    by_cases c : xs.length ≤ 2000
    · have c' : ¬ (2000 : Int) < (xs.length : Int) := by omega
      have e1 : compS (gN 2) mYes (e_is_word_0 (S_is_integer A)) [2] xs [some (.tup xs), some (.int (k : Int)), none] st [] = .ok ((xs.map fun x => letB x k).map D.bl) st := by
        rw [compS_map (f := fun x => .bl (letB x k))]
        · simp
        · intro x hy
          exact ⟨_, rfl, rfl, letter_el (hx xs rfl x hy)⟩
        · rw [PySem.sizeLine_eq]; simp; omega
      have a2 : fAll [.lst ((xs.map fun x => letB x k).map D.bl)] st = .ok (.bl (xs.all fun x => letB x k)) st := by
        unfold fAll
        rw [x_onBls, List.all_map]; rfl
      have ew : wordB (.tup xs) k = xs.all fun x => letB x k := by rw [wordB, decide_eq_true c, Bool.true_and]
      rw [ew]
      obtain ⟨L2, hL2⟩ : ∃ L2, L2 = (xs.map fun x => letB x k).map D.bl := ⟨_, rfl⟩
      rw [← hL2] at e1 a2
      simp [m_is_word, N_is_word, hi, isI, k1, k2, c', e1, a2]
    · have c' : (2000 : Int) < (xs.length : Int) := by omega
      have ew : wordB (.tup xs) k = false := by rw [wordB, decide_eq_false c]; rfl
      simp [m_is_word, N_is_word, hi, isI, k1, k2, c', ew]
  | _ =>
    first
    | (simp [pl] at hp; done)
    | (simp [m_is_word, N_is_word, hi, isI, k1, k2, wordB])
theorem check_word_of {x y : D} {b : Bool} {st : Store} (h : S_is_word A [x, y] st = .ok (.bl b) st) : S_check_word A [x, y] st = if b = true then .ok .non st else .er ⟨A 2, none⟩ st := by
  rw [S_check_word_eq]
  cases b with
  | true => exact gc_ok [] (runF_nx (τ' := [some x, some y]) (by simp [m_check_word, N_check_word, h])) (by simp [WfD])
  | false => exact gc_er [] (runF_er (τ' := [some x, some y]) (by simp [m_check_word, N_check_word, h]))
theorem check_word_er {x y : D} {st : Store} (h : S_is_word A [x, y] st = .er ⟨A 2, none⟩ st) : S_check_word A [x, y] st = .er ⟨A 2, none⟩ st := by
  rw [S_check_word_eq]
  exact gc_er [] (runF_er (τ' := [some x, some y]) (by simp [m_check_word, N_check_word, h]))
theorem is_word_ok {k : Nat} {is : List Int} {st : Store} (h : Wd k is) (hk : k ≤ 12) : S_is_word A [wD is, .int (k : Int)] st = .ok (.bl true) st := by rw [is_word_eq okW_wD hk, wordB_wD h]
theorem check_word_ok {k : Nat} {is : List Int} {st : Store} (h : Wd k is) (hk : k ≤ 12) : S_check_word A [wD is, .int (k : Int)] st = .ok .non st := by rw [check_word_of (is_word_ok h hk), if_pos rfl]
theorem tables_eq {ps : List (Pm d)} {st : Store} (h : Sys ps) : S_letter_tables A [sysD ps] st = .ok (.loc st.length) (st ++ [.dk (tabL ps 0)]) := by
  have hr := h.rank
  have key := forS_ind (g := gT (gsCons (gN 2) (gsCons (gN 3) gsNil))) (b := B_letter_tables_0 A)
    (P := fun ds τ st' => ∃ (m : Nat) (τ2 τ3 : Option D), τ = [some (sysD ps), some (.loc st.length), τ2, τ3] ∧ st' = st ++ [.dk (tabL (ps.take m) 0)] ∧ m ≤ ps.length ∧ ds = (enumD (ps.map tp)).drop m)
    (fun y ys τ st' ⟨m, τ2, τ3, e1, e2, hm, e3⟩ => by
      subst e1 e2
      have hlt : m < ps.length := by
        refine Nat.lt_of_not_le fun z => ?_
        rw [List.drop_eq_nil_of_le (by rw [enumD_len]; simp; omega)] at e3
        cases e3
      have eg : (enumD (ps.map tp))[m]? = some (.tup [nD m, tp ps[m]]) := by
        rw [enumD_get, List.getElem?_map, List.getElem?_eq_getElem hlt]; rfl
      have hlt2 : m < (enumD (ps.map tp)).length := by rw [enumD_len]; simpa using hlt
      rw [List.drop_eq_getElem_cons hlt2, List.cons.injEq] at e3
      obtain ⟨rfl, rfl⟩ := e3
      rw [List.getElem?_eq_getElem hlt2, Option.some.injEq] at eg
      rw [eg]
      have hlen : (ps.take m).length = m := by simp; omega
      have a1 := tabL_any (i := (m : Int) + 1) (ps.take m) 0 (by rw [hlen]; omega)
      have s1 := setD_at (st := st) (i := (m : Int) + 1) (v := tp ps[m]) a1 (by rw [tabL_len, hlen]; omega)
      have a2 : ((tabL (ps.take m) 0 ++ [(Sum.inl ((m : Int) + 1), tp ps[m])]).any fun kv => decide (kv.1 = Sum.inl (-(m : Int) - 1))) = false := by
        rw [List.any_append, tabL_any (i := -(m : Int) - 1) (ps.take m) 0 (by rw [hlen]; omega)]
        have n1 : ¬ ((m : Int) + 1 = -(m : Int) - 1) := by omega
        simp [n1]
      have s2 := setD_at (st := st) (i := -(m : Int) - 1) (v := tp ps[m].inv) a2 (by rw [List.length_append, tabL_len, hlen]; simp; omega)
      have et : tabL (ps.take (m + 1)) 0 = tabL (ps.take m) 0 ++ [(Sum.inl ((m : Int) + 1), tp ps[m])] ++ [(Sum.inl (-(m : Int) - 1), tp ps[m].inv)] := by
        rw [List.take_add_one, List.getElem?_eq_getElem hlt]
        simp only [Option.toList]
        rw [tabL_snoc, hlen]
        have e5 : -(((0 + m : Nat) : Int) + 1) = -(m : Int) - 1 := by omega
        have e6 : (((0 + m : Nat) : Int) + 1) = (m : Int) + 1 := by omega
        rw [e5, e6]
        simp
      refine ⟨_, rfl, _, st ++ [.dk (tabL (ps.take (m + 1)) 0)], .inl ?_, m + 1, some (nD m), some (tp ps[m]), rfl, rfl, hlt, rfl⟩
      rw [et]
      simp [b_letter_tables_0, s1, s2, inverse_of_eq (A := A) (p := ps[m]) (by have := h.few; omega)])
    (enumD (ps.map tp)) [some (sysD ps), some (.loc st.length), none, none] (st ++ [.dk []]) ⟨0, none, none, rfl, rfl, Nat.zero_le _, rfl⟩
  obtain ⟨τ', st', e, m, τ2, τ3, e1, e2, hm, e3⟩ := key
  subst e1 e2
  have hm2 : m = ps.length := by
    have := congrArg List.length e3
    rw [List.length_drop, enumD_len] at this
    simp at this; omega
  subst hm2
  rw [List.take_length] at e
  have qx : fIx (sysD ps) (.int 1) (st ++ [.dk []]) = .ok (rD ps) (st ++ [.dk []]) := by
    rw [sysD, x_ixT, show atI [D.int (d : Int), rD ps] 1 = some (rD ps) from atI_nat (j := 1) rfl]
  rw [S_letter_tables_eq]
  refine runF_rt ?_
  obtain ⟨XS, hX⟩ : ∃ XS, XS = ps.map tp := ⟨_, rfl⟩
  have eR : rD ps = .tup XS := by rw [hX]; rfl
  rw [← hX] at e
  rw [eR] at qx
  simp [m_letter_tables, N_letter_tables, qx, e]
theorem led_eq {ps : List (Pm d)} {is : List Int} {st : Store} {n x : Nat} (hn : st[n]? = some (.dk (tabL ps 0))) (hi : ∀ i ∈ is, 1 ≤ i.natAbs ∧ i.natAbs ≤ ps.length) (hx : x < d) : S_led_along A [.loc n, nD x, wD is] st = .ok (nD ((wact ps is).f x)) st := by
  have key := forS_ind (g := gN 3) (b := B_led_along_0 A)
    (P := fun ds τ st' => ∃ (y : Nat) (js : List Int) (τ3 : Option D), τ = [some (.loc n), some (nD y), some (wD is), τ3] ∧ st' = st ∧ ds = js.map D.int ∧ y < d ∧ (∀ i ∈ js, 1 ≤ i.natAbs ∧ i.natAbs ≤ ps.length) ∧ (wact ps js).f y = (wact ps is).f x)
    (fun y ys τ st' ⟨v, js, τ3, e1, e2, e3, hv, hj, hf⟩ => by
      subst e1 e2
      cases js with
      | nil => simp at e3
      | cons j js =>
        simp only [List.map_cons, List.cons.injEq] at e3
        obtain ⟨rfl, rfl⟩ := e3
        obtain ⟨hj1, hj2⟩ := hj j List.mem_cons_self
        have ev := tabL_val (i := j) ps 0 (by omega) (by omega)
        rw [Nat.sub_zero] at ev
        have ea : valD (tabL ps 0) (.inl j) = some (tp (act ps j)) := ev
        have q1 : fDGet (.loc n) (.int j) st' = .ok (tp (act ps j)) st' := by
          unfold fDGet dGet
          simp only [hn, Fx.keyOf, ea]
        have q2 : fIx (tp (act ps j)) (nD v) st' = .ok (nD ((act ps j).f v)) st' := by
          rw [tp, lD, x_ixT, atI_tp _ hv]
        refine ⟨_, rfl, _, st', .inl ?_, (act ps j).f v, js, some (.int j), rfl, rfl, rfl, (act ps j).lt hv, fun i hi => hj i (List.mem_cons_of_mem _ hi), by rw [wact_cons] at hf; exact hf⟩
        simp only [nD] at q2
        simp [b_led_along_0, q1, q2])
    (is.map D.int) [some (.loc n), some (nD x), some (wD is), none] st ⟨x, is, none, rfl, rfl, rfl, hx, hi, rfl⟩
  obtain ⟨τ', st', e, v, js, τ3, e1, e2, e3, hv, hj, hf⟩ := key
  subst e1 e2
  have : js = [] := by cases js with
    | nil => rfl
    | cons a b => simp at e3
  subst this
  have hf' : v = (wact ps is).f x := hf
  rw [S_led_along_eq, ← hf']
  refine gc_ok [] (runF_rt ?_) (by simp [WfD])
  obtain ⟨WS, hWS⟩ : ∃ WS, WS = is.map D.int := ⟨_, rfl⟩
  have eW : wD is = .tup WS := by rw [hWS]; rfl
  rw [← hWS, eW] at e
  rw [eW]
  simp [m_led_along, N_led_along] at e ⊢
  simp [e]
theorem any0 {α : Type} {l : List α} {st : Store} : fAny [.lst (l.map fun _ => D.bl false)] st = .ok (.bl false) st := by
  have e : (l.map fun _ => D.bl false) = (l.map fun _ => false).map D.bl := by rw [List.map_map]; rfl
  unfold fAny
  rw [e, x_onBls]
  simp
theorem ix_lead {F : List Ent} {y : Nat} {st : Store} (hy : y < d) : fIx (leadD F d) (nD y) st = .ok (wD (wordOf F y)) st := by
  rw [leadD, nD, x_ixT, atI_map (x := y) (by rw [List.getElem?_range hy])]
theorem notconn2 : (parts [(Pm.one : Pm 2)]).length ≠ 1 := not_conn (S := fun y => y = 0) (by omega) rfl (fun p hp y hy => by
  rw [List.mem_singleton] at hp; subst hp; exact hy) (x := 1) (by omega) (by omega)
theorem ne_RM {st : Store} : fNe RM RM st = .ok (.bl false) st := fNe_self (k := 1) (Fl.tup fun x hx => by
  simp only [List.mem_cons, List.not_mem_nil, or_false] at hx
  rcases hx with rfl | rfl <;> exact Fl.str (by decide +kernel))
theorem eq_RM {st : Store} : fEq RM RM st = .ok (.bl true) st := fEq_self (k := 1) (Fl.tup fun x hx => by
  simp only [List.mem_cons, List.not_mem_nil, or_false] at hx
  rcases hx with rfl | rfl <;> exact Fl.str (by decide +kernel))
theorem hRM : D.tup [.str "raised", .str "malformed"] = RM := rfl
theorem conn1 : (parts ([] : List (Pm 1))).length = 1 := (parts_iff (by omega)).mpr fun x hx => by
  have : x = 0 := by omega
  subst this; exact reach0_mem (by omega)
theorem two_ne {st : Store} {L m i : Nat} {X Y : O} (h1 : i ≠ L) (h2 : i ≠ m) : (two st L m X Y)[i]? = st[i]? := by
  rw [two, List.getElem?_set_ne (Ne.symm h2), List.getElem?_set_ne (Ne.symm h1)]
section
variable {ps : List (Pm d)} {x0 : Nat}
theorem tab_get {st : Store} {n : Nat} {j : Int} (hn : st[n]? = some (.dk (tabL ps 0))) (hj : 1 ≤ j.natAbs ∧ j.natAbs ≤ ps.length) : fDGet (.loc n) (.int j) st = .ok (tp (act ps j)) st := by
  have ev := tabL_val (i := j) ps 0 (by omega) (by omega)
  rw [Nat.sub_zero] at ev
  have ea : valD (tabL ps 0) (.inl j) = some (tp (act ps j)) := ev
  unfold fDGet dGet
  simp only [hn, Fx.keyOf, ea]
theorem wf_inner {st0 : Store} {T B L m k : Nat} {e0 e1 e4 : Option D} {e : Ent} {XS : List D} (hT : st0[T]? = some (.dk (tabL ps 0))) (hB : st0[B]? = some (.lst XS)) (hTL : T ≠ L) (hTm : T ≠ m) (hBL : B ≠ L) (hBm : B ≠ m)
    (hL : L ≠ m) (hl : L < st0.length) (hm : m < st0.length) (hd : d ≤ 24) : ∀ (l : List Int) (F : List Ent) (e8 e9 : Option D), (∀ i ∈ l, i ∈ ltrs ps.length) → F[k]? = some e → Wk ps x0 F → ∃ e8' e9',
    forS (gN 8) (chkS B XS (B_words_from_0 A)) (l.map D.int) [e0, e1, some (.loc T), some (.loc B), e4, some (.loc L), some (.loc m), some (.int (k : Int)), e8, e9] (two st0 L m (.dk (kvE F)) (.lst (ordL F))) =
      .nx [e0, e1, some (.loc T), some (.loc B), e4, some (.loc L), some (.loc m), some (.int (k : Int)), e8', e9'] (two st0 L m (.dk (kvE (l.foldl (vw (stp ps) e.1 e.2) F))) (.lst (ordL (l.foldl (vw (stp ps) e.1 e.2) F))))
  | [], F, e8, e9, _, _, _ => ⟨e8, e9, rfl⟩
  | i :: l, F, e8, e9, hi, hk, hv => by
    have hem := List.mem_of_getElem? hk
    have hx : e.1 < d := hv.lt e hem
    have hil := ltrs_mem.mp (hi i List.mem_cons_self)
    have hk' : (vw (stp ps) e.1 e.2 F i)[k]? = some e := by
      unfold vw
      split
      · exact hk
      · rw [List.getElem?_append_left (List.getElem?_eq_some_iff.mp hk).1]; exact hk
    obtain ⟨e8', e9', ih⟩ := wf_inner (e0 := e0) (e1 := e1) (e4 := e4) hT hB hTL hTm hBL hBm hL hl hm hd l (vw (stp ps) e.1 e.2 F i) (some (.int i)) (some (nD ((act ps i).f e.1))) (fun j hj => hi j (List.mem_cons_of_mem _ hj)) hk' (hv.vw stp_lt hem (hi i List.mem_cons_self))
    refine ⟨e8', e9', ?_⟩
    rw [List.map_cons, x_forS_cons, List.foldl_cons, ← ih]
    have q1 := ord_get (two_m (st := st0) (L := L) (X := .dk (kvE F)) (Y := .lst (ordL F)) hm) hk
    have hTt : (two st0 L m (.dk (kvE F)) (.lst (ordL F)))[T]? = some (.dk (tabL ps 0)) := by rw [two_ne hTL hTm]; exact hT
    have q2 := tab_get hTt hil
    have q2' : fIx (tp (act ps i)) (nD e.1) (two st0 L m (.dk (kvE F)) (.lst (ordL F))) = .ok (nD ((act ps i).f e.1)) (two st0 L m (.dk (kvE F)) (.lst (ordL F))) := by
      rw [tp, lD, x_ixT, atI_tp _ hx]
    have h0 := two_L (st := st0) (X := .dk (kvE F)) (Y := .lst (ordL F)) hL hl
    have q3 := kvE_notin (y := (act ps i).f e.1) h0
    have hc := hv.card
    by_cases c : (act ps i).f e.1 ∈ F.map (·.1)
    · have ev : vw (stp ps) e.1 e.2 F i = F := by rw [vw, if_pos c]
      rw [ev]
      rw [decide_eq_true c] at q3
      simp only [nD] at q1 q2 q2' q3 ⊢
      have step : b_words_from_0 [e0, e1, some (.loc T), some (.loc B), e4, some (.loc L), some (.loc m), some (.int (k : Int)), some (.int i), e9] (two st0 L m (.dk (kvE F)) (.lst (ordL F))) = .nx [e0, e1, some (.loc T), some (.loc B), e4, some (.loc L), some (.loc m), some (.int (k : Int)), some (.int i), some (.int (((act ps i).f e.1 : Nat) : Int))] (two st0 L m (.dk (kvE F)) (.lst (ordL F))) := by
        simp [b_words_from_0, q1, q2, q2', q3]
      have hc2 := chkS_nx (n := B) (xs := XS) step (by rw [two_ne hBL hBm]; exact hB)
      simp [hc2]
    · have ev : vw (stp ps) e.1 e.2 F i = F ++ [((act ps i).f e.1, e.2 ++ [i])] := by rw [vw, if_neg c]
      rw [ev]
      rw [decide_eq_false c] at q3
      have q4 := kvE_get h0 (List.mem_map.mpr ⟨e, hem, rfl⟩)
      rw [wordOf_of hv.nod hem] at q4
      have q5 := add_w1 (w := e.2) (i := i) (st := two st0 L m (.dk (kvE F)) (.lst (ordL F))) (by have := hv.len e hem; omega)
      have q6 := kvE_set (w := e.2 ++ [i]) h0 c (by omega)
      rw [two_setL hL] at q6
      have h1 := two_m (st := st0) (L := L) (X := .dk (kvE (F ++ [((act ps i).f e.1, e.2 ++ [i])]))) (Y := .lst (ordL F)) hm
      have q7 := ord_app (y := (act ps i).f e.1) (w := e.2 ++ [i]) h1 (by omega)
      rw [two_setm] at q7
      have hlo : Fx.listOf (.loc m) (two st0 L m (.dk (kvE (F ++ [((act ps i).f e.1, e.2 ++ [i])]))) (.lst (ordL F))) = some (ordL F) := by simp only [Fx.listOf, h1]
      simp only [nD] at q1 q2 q2' q3 q4 q6 q7 ⊢
      have step : b_words_from_0 [e0, e1, some (.loc T), some (.loc B), e4, some (.loc L), some (.loc m), some (.int (k : Int)), some (.int i), e9] (two st0 L m (.dk (kvE F)) (.lst (ordL F))) = .nx [e0, e1, some (.loc T), some (.loc B), e4, some (.loc L), some (.loc m), some (.int (k : Int)), some (.int i), some (.int (((act ps i).f e.1 : Nat) : Int))] (two st0 L m (.dk (kvE (F ++ [((act ps i).f e.1, e.2 ++ [i])]))) (.lst (ordL (F ++ [((act ps i).f e.1, e.2 ++ [i])])))) := by
        simp [b_words_from_0, q1, q2, q2', q3, q4, q5, q6, q7, hlo]
      have hc2 := chkS_nx (n := B) (xs := XS) step (by rw [two_ne hBL hBm]; exact hB)
      simp [hc2]
theorem wf_while {st0 : Store} {T B L m : Nat} {e0 e1 e4 : Option D} (hT : st0[T]? = some (.dk (tabL ps 0))) (hB : st0[B]? = some (.lst ((ltrs ps.length).map D.int))) (hTL : T ≠ L) (hTm : T ≠ m) (hBL : B ≠ L) (hBm : B ≠ m)
    (hL : L ≠ m) (hl : L < st0.length) (hm : m < st0.length) (hd : d ≤ 24) : ∀ (n k : Nat) (F : List Ent) (e8 e9 : Option D), d ≤ k + n → Wk ps x0 F → ∃ (k' : Int) (e8' e9' : Option D),
    sWhile c_words_from_0 (B_words_from_1 A) [e0, e1, some (.loc T), some (.loc B), e4, some (.loc L), some (.loc m), some (.int (k : Int)), e8, e9] (two st0 L m (.dk (kvE F)) (.lst (ordL F))) =
      .nx [e0, e1, some (.loc T), some (.loc B), e4, some (.loc L), some (.loc m), some (.int k'), e8', e9'] (two st0 L m (.dk (kvE (lbf (stp ps) (ltrs ps.length) n k F))) (.lst (ordL (lbf (stp ps) (ltrs ps.length) n k F))))
  | n, k, F, e8, e9, hk, hv => by
    have ql := x_lenLoc (two_m (st := st0) (L := L) (X := .dk (kvE F)) (Y := .lst (ordL F)) hm)
    have eo : (ordL F).length = F.length := by simp [ordL]
    rw [eo] at ql
    have hc := hv.card
    have stop : ¬ k < F.length → ∃ (k' : Int) (e8' e9' : Option D),
        sWhile c_words_from_0 (B_words_from_1 A) [e0, e1, some (.loc T), some (.loc B), e4, some (.loc L), some (.loc m), some (.int (k : Int)), e8, e9] (two st0 L m (.dk (kvE F)) (.lst (ordL F))) =
          .nx [e0, e1, some (.loc T), some (.loc B), e4, some (.loc L), some (.loc m), some (.int k'), e8', e9'] (two st0 L m (.dk (kvE F)) (.lst (ordL F))) := fun h => by
      refine ⟨k, e8, e9, ?_⟩
      rw [sWhile_eq]
      simp [c_words_from_0, ql, h]
    cases n with
    | zero => exact stop (by omega)
    | succ n =>
      rw [lbf]
      cases hx : F[k]? with
      | none => exact stop (by have := List.getElem?_eq_none_iff.mp hx; omega)
      | some e =>
        have hxl := (List.getElem?_eq_some_iff.mp hx).1
        obtain ⟨LS, hLS⟩ : ∃ LS, LS = (ltrs ps.length).map D.int := ⟨_, rfl⟩
        obtain ⟨e8', e9', q1⟩ := wf_inner (A := A) (e0 := e0) (e1 := e1) (e4 := e4) hT hB hTL hTm hBL hBm hL hl hm hd (ltrs ps.length) F e8 e9 (fun _ h => h) hx hv
        obtain ⟨k', e8'', e9'', q2⟩ := wf_while (e0 := e0) (e1 := e1) (e4 := e4) hT hB hTL hTm hBL hBm hL hl hm hd n (k + 1) (expE (stp ps) (ltrs ps.length) F e) e8' e9' (by omega) (hv.exp stp_lt (List.mem_of_getElem? hx))
        refine ⟨k', e8'', e9'', ?_⟩
        simp only
        rw [← q2, sWhile_eq]
        rw [← hLS] at q1
        have qB : (two st0 L m (.dk (kvE F)) (.lst (ordL F)))[B]? = some (.lst LS) := by rw [two_ne hBL hBm, hLS]; exact hB
        simp [c_words_from_0, ql, hxl, b_words_from_1, qB, q1, expE, x_sAug]
theorem words_from_eq {st : Store} (h : Sys ps) (hc : (parts ps).length = 1) (hx : x0 < d) : S_words_from A [sysD ps, nD x0] st = .ok (leadD (lead (stp ps) (ltrs ps.length) d x0) d) st := by
  have hd := h.few
  have hp := h.rank
  obtain ⟨LS, hLS⟩ : ∃ LS, LS = (ltrs ps.length).map D.int := ⟨_, rfl⟩
  obtain ⟨TB, hTB⟩ : ∃ TB, TB = tabL ps 0 := ⟨_, rfl⟩
  obtain ⟨k', e8', e9', q1⟩ := wf_while (A := A) (ps := ps) (x0 := x0) (st0 := st ++ [.dk TB, .lst LS, .dk (kvE [(x0, [])]), .lst (ordL [(x0, [])])]) (T := st.length) (B := st.length + 1) (L := st.length + 2) (m := st.length + 3) (e0 := some (sysD ps)) (e1 := some (nD x0)) (e4 := (if ps.length = 0 then none else some (nD (ps.length - 1)))) (by rw [hTB]; simp) (by rw [hLS]; simp) (by omega) (by omega) (by omega) (by omega) (by omega) (by simp) (by simp) hd d 0 [(x0, [])] none none (by omega) (Wok.one hx)
  have e0 : two (st ++ [.dk TB, .lst LS, .dk (kvE [(x0, [])]), .lst (ordL [(x0, [])])]) (st.length + 2) (st.length + 3) (.dk (kvE [(x0, [])])) (.lst (ordL [(x0, [])])) = st ++ [.dk TB, .lst LS, .dk (kvE [(x0, [])]), .lst (ordL [(x0, [])])] := by simp [two]
  obtain ⟨R, hR⟩ : ∃ R, R = lead (stp ps) (ltrs ps.length) d x0 := ⟨_, rfl⟩
  rw [show lbf (stp ps) (ltrs ps.length) d 0 [(x0, [])] = R from hR.symm, e0] at q1
  have e2 : two (st ++ [.dk TB, .lst LS, .dk (kvE [(x0, [])]), .lst (ordL [(x0, [])])]) (st.length + 2) (st.length + 3) (.dk (kvE R)) (.lst (ordL R)) = st ++ [.dk TB, .lst LS, .dk (kvE R), .lst (ordL R)] := by simp [two]
  rw [e2] at q1
  have hall := lead_all hc hx
  rw [← hR] at hall ⊢
  have q2 := tables_eq (A := A) (st := st) h
  rw [← hTB] at q2
  -- the letters
  have key := forS_ind (g := gN 4) (b := B_words_from_2 A)
    (P := fun ds τ st' => ∃ (m : Nat), τ = [some (sysD ps), some (nD x0), some (.loc st.length), some (.loc (st.length + 1)), if m = 0 then none else some (nD (m - 1)), none, none, none, none, none] ∧ st' = st ++ [.dk TB, .lst ((ltrs m).map D.int)] ∧ m ≤ ps.length ∧ ds = (List.range' m (ps.length - m)).map nD)
    (fun y ys τ st' ⟨m, e1, e2, hm, hds⟩ => by
      subst e1 e2
      have hlt : m < ps.length := by
        refine Nat.lt_of_not_le fun z => ?_
        rw [show ps.length - m = 0 by omega] at hds
        cases hds
      rw [show ps.length - m = (ps.length - (m + 1)) + 1 by omega, List.range'_succ, List.map_cons, List.cons.injEq] at hds
      obtain ⟨rfl, rfl⟩ := hds
      have z : szFits ((ltrs m).length + 2) = true := szFits_of (by rw [ltrs_len]; omega)
      refine ⟨_, rfl, _, st ++ [.dk TB, .lst ((ltrs (m + 1)).map D.int)], .inl ?_, m + 1, rfl, rfl, hlt, rfl⟩
      have hs : (st ++ [O.dk TB, .lst ((ltrs m).map D.int)])[st.length + 1]? = some (.lst ((ltrs m).map D.int)) := by simp
      have ho : onLoc (.loc (st.length + 1)) (st ++ [O.dk TB, .lst ((ltrs m).map D.int)]) (fun xs => if szFits (xs.length + 2) = true then some (.non, xs ++ [D.int ((m : Int) + 1), .int (-(m : Int) - 1)]) else none) = .ok .non (st ++ [.dk TB, .lst ((ltrs (m + 1)).map D.int)]) := by
        have e3 : (ltrs (m + 1)).map D.int = (ltrs m).map D.int ++ [D.int ((m : Int) + 1), .int (-(m : Int) - 1)] := by
          rw [ltrs_succ, List.map_append, List.map_cons, List.map_cons, List.map_nil]
          rw [show -((m : Int) + 1) = -(m : Int) - 1 by omega]
        rw [e3]
        simp [onLoc, z]
      have hlo : Fx.listOf (.loc (st.length + 1)) (st ++ [O.dk TB, .lst ((ltrs m).map D.int)]) = some ((ltrs m).map D.int) := by simp [Fx.listOf]
      simp only [nD]
      simp [b_words_from_2, hlo, ho])
    (rangeD 0 (ps.length : Int)) [some (sysD ps), some (nD x0), some (.loc st.length), some (.loc (st.length + 1)), none, none, none, none, none, none] (st ++ [.dk TB, .lst []]) ⟨0, rfl, by simp [ltrs], Nat.zero_le _, by rw [range_nD, List.range_eq_range']; rfl⟩
  obtain ⟨τ', st', q3, m, e1, e2', hm, hds⟩ := key
  subst e1 e2'
  have hm2 : m = ps.length := by
    have := congrArg List.length hds
    simp at this; omega
  subst hm2
  rw [← hLS] at q3
  obtain ⟨e4, he4⟩ : ∃ e4 : Option D, e4 = if ps.length = 0 then none else some (nD (ps.length - 1)) := ⟨_, rfl⟩
  rw [← he4] at q1 q3
  have q4 := lead_comp (F := R) (st := st ++ [.dk TB, .lst LS, .dk (kvE R), .lst (ordL R)]) (L := st.length + 2) (g := gN 9) (m := e_words_from_0) (vs := [9]) (τ := [some (sysD ps), some (nD x0), some (.loc st.length), some (.loc (st.length + 1)), e4, some (.loc (st.length + 2)), some (.loc (st.length + 3)), some (.int k'), e8', e9']) hd hall (by simp) (fun y hy => ⟨_, rfl, by simp [e_words_from_0]⟩)
  have z : w62 (d : Int) = true := w62_of (by omega) (by omega)
  have zp : w62 (ps.length : Int) = true := w62_of (by omega) (by omega)
  have kE : kvE [(x0, [])] = [(.inl (x0 : Int), .tup [])] := rfl
  have oE : ordL [(x0, [])] = [nD x0] := rfl
  have zc : szFits ((List.range d).map fun y => wD (wordOf R y)).length = true := szFits_of (by simp; omega)
  rw [S_words_from_eq]
  refine gc_ok [.dk TB, .lst LS, .dk (kvE R), .lst (ordL R)] (runF_rt ?_) (wf_lf _ (by simp [leadD, List.all_map, wD]))
  rw [kE, oE] at q1
  have i0 : ((0 : Nat) : Int) = 0 := rfl
  rw [i0] at q1
  obtain ⟨WS, hWS⟩ : ∃ WS, WS = (List.range d).map fun y => wD (wordOf R y) := ⟨_, rfl⟩
  rw [leadD]
  rw [← hWS] at q4 zc ⊢
  simp only [nD] at q1 q2 q3 q4 ⊢
  simp [m_words_from, N_words_from, z, zp, q1, q2, q3, q4, fIx0, fIx1, fLen_rD, Fx.keyOf]
theorem leading_words_eq {st : Store} (h : Sys ps) (hc : (parts ps).length = 1) (hx : x0 < d) : S_leading_words A [sysD ps, nD x0] st = .ok (leadD (lead (stp ps) (ltrs ps.length) d x0) d) st := by
  have q1 := check_connected_of (A := A) (st := st) h
  rw [connB, decide_eq_true hc, if_pos rfl] at q1
  have q2 := check_sheet_eq (A := A) (ps := ps) (x := nD x0) (st := st) rfl
  rw [show sheetB (nD x0) d = true by simp [sheetB, nD]; omega, if_pos rfl] at q2
  have q3 := words_from_eq (A := A) (st := st) h hc hx
  rw [S_leading_words_eq]
  refine gc_ok [] (runF_rt ?_) (wf_lf _ (by simp [leadD, List.all_map, wD]))
  simp only [nD] at q2 q3 ⊢
  obtain ⟨RD, hRD⟩ : ∃ RD, RD = leadD (lead (stp ps) (ltrs ps.length) d x0) d := ⟨_, rfl⟩
  rw [← hRD] at q3 ⊢
  simp [m_leading_words, N_leading_words, q1, q2, q3]
theorem plain_leadD {F : List Ent} {st : Store} (hd : d ≤ 1000) (hF : ∀ y, y < d → (wordOf F y).length ≤ 1000) : S_law_plain A [leadD F d] st = .ok (leadD F d) st := by
  refine plain_tup (inner_tup (fun x hx => ?_) (by simpa using hd) (by simp [List.all_map, wD])) (by simp [List.all_map, wD])
  obtain ⟨y, hy, rfl⟩ := List.mem_map.mp hx
  exact inner_wD (hF y (List.mem_range.mp hy))
theorem lead_word (hc : (parts ps).length = 1) (hx : x0 < d) {y : Nat} (hy : y < d) : (y, wordOf (lead (stp ps) (ltrs ps.length) d x0) y) ∈ lead (stp ps) (ltrs ps.length) d x0 := wordOf_mem (lead_all hc hx y hy)
theorem lead_short (hc : (parts ps).length = 1) (hx : x0 < d) {y : Nat} (hy : y < d) : (wordOf (lead (stp ps) (ltrs ps.length) d x0) y).length < d := by
  have h := (lead_ok (s := stp ps) (Ls := ltrs ps.length) stp_lt hx).1
  have := h.len _ (lead_word hc hx hy)
  rw [lead_len hc hx] at this
  exact this
theorem fl_leadD {F : List Ent} : Fl 2 (leadD F d) := Fl.tup fun x hx => by
  obtain ⟨y, _, rfl⟩ := List.mem_map.mp hx; exact fl_wD
end
end K25

set_option Elab.async false
set_option linter.all false
set_option maxRecDepth 100000
set_option maxHeartbeats 4000000
namespace K25
open PySem L2 Fx
variable {A : Nat → Addr} {d : Nat}
section
variable {ps us : List (Pm d)}
theorem vis_same {x : Nat} {p : Pm d} {σ : List Nat × List Nat} (h : σ.1 = σ.2) : (vis x σ p).1 = (vis x σ p).2 := visf_same [p] h
theorem cf_inner {st0 : Store} {L m x k : Nat} {e0 e1 : Option D} (hL : L ≠ m) (hl : L < st0.length) (hm : m < st0.length) (hx : x < d) (hd : d ≤ 900) : ∀ (qs : List (Pm d)) (σ : List Nat × List Nat) (e5 e6 : Option D), σ.2[k]? = some x → σ.1 = σ.2 → Inv2 d σ → ∃ e5' e6',
    forS (gN 5) (B_counted_from_0 A) (qs.map tp) [e0, e1, some (.loc m), some (.loc L), some (.int (k : Int)), e5, e6] (two st0 L m (.dk (kvN 0 σ.2)) (.lst (σ.2.map nD))) =
      .nx [e0, e1, some (.loc m), some (.loc L), some (.int (k : Int)), e5', e6'] (two st0 L m (.dk (kvN 0 (qs.foldl (vis x) σ).2)) (.lst ((qs.foldl (vis x) σ).2.map nD)))
  | [], σ, e5, e6, _, _, _ => ⟨e5, e6, rfl⟩
  | p :: qs, σ, e5, e6, hk, hs, hv => by
    have hy : p.f x < d := p.lt hx
    obtain ⟨e5', e6', ih⟩ := cf_inner (e0 := e0) (e1 := e1) hL hl hm hx hd qs (vis x σ p) (some (tp p)) (some (nD (p.f x))) (vis_get hk) (vis_same hs) (hv.vis hx p)
    refine ⟨e5', e6', ?_⟩
    rw [List.map_cons, x_forS_cons, List.foldl_cons, ← ih]
    have h1 := two_m (st := st0) (L := L) (X := .dk (kvN 0 σ.2)) (Y := .lst (σ.2.map nD)) hm
    have q1 := x_ixLoc (k := (k : Int)) h1
    rw [atI_map hk] at q1
    have q2 : ∀ s, fIx (tp p) (nD x) s = .ok (nD (p.f x)) s := fun s => by rw [tp, lD, nD, x_ixT, atI_tp _ hx]
    have h0 := two_L (st := st0) (X := .dk (kvN 0 σ.2)) (Y := .lst (σ.2.map nD)) hL hl
    have q3 := kvN_in (y := p.f x) h0
    by_cases c : p.f x ∈ σ.2
    · have ev : vis x σ p = σ := by rw [vis, if_pos (by rw [hs]; exact c)]
      rw [ev]
      rw [decide_eq_true c] at q3
      simp only [nD] at q1 q2 q3 ⊢
      simp [b_counted_from_0, q1, q2, q3]
    · have ev : (vis x σ p).2 = σ.2 ++ [p.f x] := by rw [vis, if_neg (by rw [hs]; exact c)]
      rw [ev]
      rw [decide_eq_false c] at q3
      have ql := x_lenLoc h1
      rw [List.length_map] at ql
      have q4 := kvN_set h0 c (by have := hv.len2; omega)
      rw [two_setL hL] at q4
      have h2 := two_m (st := st0) (L := L) (X := .dk (kvN 0 (σ.2 ++ [p.f x]))) (Y := .lst (σ.2.map nD)) hm
      have q5 := x_app (d := nD (p.f x)) h2 (small1000 (by have := hv.len2; simp; omega))
      rw [two_setm] at q5
      have hlo : Fx.listOf (.loc m) (two st0 L m (.dk (kvN 0 (σ.2 ++ [p.f x]))) (.lst (σ.2.map nD))) = some (σ.2.map nD) := by simp only [Fx.listOf, h2]
      have em : (σ.2 ++ [p.f x]).map nD = σ.2.map nD ++ [nD (p.f x)] := by simp
      rw [em]
      simp only [nD] at q1 q2 q3 q4 q5 hlo ⊢
      simp [b_counted_from_0, q1, q2, q3, ql, q4, q5, hlo]
theorem cf_while {st0 : Store} {L m : Nat} {e1 : Option D} (hL : L ≠ m) (hl : L < st0.length) (hm : m < st0.length) (hd : d ≤ 900) : ∀ (n k : Nat) (σ : List Nat × List Nat) (e5 e6 : Option D), d ≤ k + n → σ.1 = σ.2 → Inv2 d σ → ∃ (k' : Int) (e5' e6' : Option D),
    sWhile c_counted_from_0 (B_counted_from_1 A) [some (sysD ps), e1, some (.loc m), some (.loc L), some (.int (k : Int)), e5, e6] (two st0 L m (.dk (kvN 0 σ.2)) (.lst (σ.2.map nD))) =
      .nx [some (sysD ps), e1, some (.loc m), some (.loc L), some (.int k'), e5', e6'] (two st0 L m (.dk (kvN 0 (bfs ps n k σ).2)) (.lst ((bfs ps n k σ).2.map nD)))
  | n, k, σ, e5, e6, hk, hs, hv => by
    have ql := x_lenLoc (two_m (st := st0) (L := L) (X := .dk (kvN 0 σ.2)) (Y := .lst (σ.2.map nD)) hm)
    rw [List.length_map] at ql
    have stop : ¬ k < σ.2.length → ∃ (k' : Int) (e5' e6' : Option D),
        sWhile c_counted_from_0 (B_counted_from_1 A) [some (sysD ps), e1, some (.loc m), some (.loc L), some (.int (k : Int)), e5, e6] (two st0 L m (.dk (kvN 0 σ.2)) (.lst (σ.2.map nD))) =
          .nx [some (sysD ps), e1, some (.loc m), some (.loc L), some (.int k'), e5', e6'] (two st0 L m (.dk (kvN 0 σ.2)) (.lst (σ.2.map nD))) := fun h => by
      refine ⟨k, e5, e6, ?_⟩
      rw [sWhile_eq]
      simp [c_counted_from_0, ql, h]
    cases n with
    | zero => exact stop (by have := hv.len2; omega)
    | succ n =>
      rw [bfs]
      cases hx : σ.2[k]? with
      | none => exact stop (by have := List.getElem?_eq_none_iff.mp hx; omega)
      | some x =>
        have hxl := (List.getElem?_eq_some_iff.mp hx).1
        have hxd : x < d := hv.lt x (hv.sub x (List.mem_of_getElem? hx))
        obtain ⟨e5', e6', q1⟩ := cf_inner (A := A) (e0 := some (sysD ps)) (e1 := e1) hL hl hm hxd hd ps σ e5 e6 hx hs hv
        obtain ⟨k', e5'', e6'', q2⟩ := cf_while (e1 := e1) hL hl hm hd n (k + 1) (ps.foldl (vis x) σ) e5' e6' (by omega) (visf_same ps hs) (hv.fold hxd ps)
        refine ⟨k', e5'', e6'', ?_⟩
        simp only
        rw [← q2, sWhile_eq]
        obtain ⟨XS, hX⟩ : ∃ XS, XS = ps.map tp := ⟨_, rfl⟩
        have eR : rD ps = .tup XS := by rw [hX]; rfl
        have f1 := fIx1 (ps := ps) (st := two st0 L m (.dk (kvN 0 σ.2)) (.lst (σ.2.map nD)))
        rw [eR] at f1
        rw [← hX] at q1
        simp [c_counted_from_0, ql, hxl, b_counted_from_1, f1, q1, x_sAug]
theorem numb_sys {x : Nat} (hc : (parts ps).length = 1) (hx : x < d) : sysD (numb ps x) = .tup [.int (d : Int), .tup (ps.map fun p => .tup ((ordr ps x).map fun y => nD ((ordr ps x).idxOf (p.f y))))] := by
  rw [sysD, rD, numb, turn, List.map_map]
  congr 4
  refine List.map_congr_left fun p _ => ?_
  show tp ((num ps x).inv.inv * (p * (num ps x).inv)) = _
  rw [tp, lD, ← num_list hc hx, Pm.list, Pm.list, List.map_map, List.map_map]
  congr 1
  refine List.map_congr_left fun i hi => ?_
  rw [List.mem_range] at hi
  have hy : p.f ((num ps x).f i) < d := p.lt ((num ps x).lt hi)
  show nD ((num ps x).b (p.f ((num ps x).f i))) = nD (List.idxOf (p.f ((num ps x).f i)) ((List.range d).map (num ps x).f))
  rw [show (List.range d).map (num ps x).f = ordr ps x from num_list hc hx, num_b hc hx hy]
theorem counted_from_eq {x : Nat} {st : Store} (hd : d ≤ 24) (hr : ps.length ≤ 12) (hc : (parts ps).length = 1) (hx : x < d) : S_counted_from A [sysD ps, nD x] st = .ok (sysD (numb ps x)) st := by
  obtain ⟨k', e5', e6', q1⟩ := cf_while (A := A) (ps := ps) (st0 := st ++ [.lst [nD x], .dk (kvN 0 [x])]) (L := st.length + 1) (m := st.length) (e1 := some (nD x)) (by omega) (by simp) (by simp) (by omega) d 0 ([x], [x]) none none (by omega) rfl (invx hx)
  have e0 : two (st ++ [.lst [nD x], .dk (kvN 0 [x])]) (st.length + 1) st.length (.dk (kvN 0 [x])) (.lst ([x].map nD)) = st ++ [.lst [nD x], .dk (kvN 0 [x])] := by simp [two]
  simp only at q1
  obtain ⟨O, hO⟩ : ∃ O, O = ordr ps x := ⟨_, rfl⟩
  rw [show (bfs ps d 0 ([x], [x])).2 = O from hO.symm, e0] at q1
  have e2 : two (st ++ [.lst [nD x], .dk (kvN 0 [x])]) (st.length + 1) st.length (.dk (kvN 0 O)) (.lst (O.map nD)) = st ++ [.lst (O.map nD), .dk (kvN 0 O)] := by simp [two]
  rw [e2] at q1
  have hin := (ordr_inv (ps := ps) hx)
  have hall := ordr_all hc hx
  have hR := numb_sys hc hx
  rw [← hO] at hin hall hR
  have hOl : O.length ≤ 24 := by
    have := nodup_len (D := List.range d) hin.1 fun y hy => List.mem_range.mpr (hin.2 y hy)
    simp at this; omega
  rw [hR]
  obtain ⟨S', hS'⟩ : ∃ S', S' = st ++ [.lst (O.map nD), .dk (kvN 0 O)] := ⟨_, rfl⟩
  have hm : S'[st.length]? = some (.lst (O.map nD)) := by rw [hS']; simp
  have hL : S'[st.length + 1]? = some (.dk (kvN 0 O)) := by rw [hS']; simp
  rw [← hS'] at q1
  have c : compS (gN 5) mYes e_counted_from_1 [5] (ps.map tp) [some (sysD ps), some (nD x), some (.loc st.length), some (.loc (st.length + 1)), some (.int k'), e5', e6'] S' [] = .ok (ps.map fun p => .tup (O.map fun y => nD (O.idxOf (p.f y)))) S' := by
    rw [compS_mapL (h := tp) (f := fun p => D.tup (O.map fun y => nD (O.idxOf (p.f y))))]
    · simp
    · intro p hp
      refine ⟨[some (sysD ps), some (nD x), some (.loc st.length), some (.loc (st.length + 1)), some (.int k'), some (tp p), e6'], rfl, rfl, ?_⟩
      have c2 : compS (gN 6) (chkB st.length (O.map nD) mYes) (chkE st.length (O.map nD) e_counted_from_0) [6] (O.map nD) [some (sysD ps), some (nD x), some (.loc st.length), some (.loc (st.length + 1)), some (.int k'), some (tp p), e6'] S' [] = .ok (O.map fun y => nD (O.idxOf (p.f y))) S' := by
        rw [compS_map (f := fun v => match v with | .int j => nD (O.idxOf (p.f j.toNat)) | _ => .non)]
        · simp [Function.comp_def, nD]
        · intro v hv
          obtain ⟨y, hy, rfl⟩ := List.mem_map.mp hv
          refine ⟨_, rfl, chkB_yes hm, chkE_ok ?_ hm⟩
          have a1 : ∀ s, fIx (tp p) (nD y) s = .ok (nD (p.f y)) s := fun s => by rw [tp, lD, nD, x_ixT, atI_tp _ (hin.2 y hy)]
          have a2 := kvN_get hL (hall _ (p.lt (hin.2 y hy)))
          simp only [nD] at a1 a2 ⊢
          simp [e_counted_from_0, a1, a2]
        · simpa using small (by omega)
      have z : szFits (O.map fun y => nD (O.idxOf (p.f y))).length = true := szFits_of (by simp; omega)
      obtain ⟨C, hC⟩ : ∃ C, C = O.map fun y => nD (O.idxOf (p.f y)) := ⟨_, rfl⟩
      obtain ⟨ON, hON⟩ : ∃ ON, ON = O.map nD := ⟨_, rfl⟩
      rw [← hC] at z ⊢
      rw [← hC, ← hON] at c2
      rw [← hON] at hm
      simp [e_counted_from_1, hm, c2]
    · simpa using small (by omega)
  have zq : szFits (ps.map fun p => D.tup (O.map fun y => nD (O.idxOf (p.f y)))).length = true := szFits_of (by simp; omega)
  rw [S_counted_from_eq]
  refine gc_ok [.lst (O.map nD), .dk (kvN 0 O)] (runF_rt ?_) (wf_lf _ (by simp [List.all_map]))
  rw [← hS']
  have f1 := fIx1 (ps := ps) (st := S')
  have er : rD ps = .tup (ps.map tp) := rfl
  rw [er] at f1
  have kE : kvN 0 [x] = [(.inl (x : Int), .int 0)] := rfl
  rw [kE] at q1
  have i0 : ((0 : Nat) : Int) = 0 := rfl
  rw [i0] at q1
  obtain ⟨XP, hXP⟩ : ∃ XP, XP = ps.map tp := ⟨_, rfl⟩
  obtain ⟨XQ, hXQ⟩ : ∃ XQ, XQ = ps.map fun p => D.tup (O.map fun y => nD (O.idxOf (p.f y))) := ⟨_, rfl⟩
  rw [← hXP, ← hXQ] at c
  rw [← hXP] at f1
  rw [← hXQ] at zq ⊢
  simp only [nD] at q1 c ⊢
  simp [m_counted_from, N_counted_from, q1, fIx0, f1, c, Fx.keyOf]
theorem ln_inner {st0 : Store} {L m x k : Nat} {e0 e1 : Option D} (hL : L ≠ m) (hl : L < st0.length) (hm : m < st0.length) (hx : x < d) (hd : d ≤ 900) : ∀ (qs : List (Pm d)) (σ : List Nat × List Nat) (e5 e6 : Option D), σ.2[k]? = some x → σ.1 = σ.2 → Inv2 d σ → ∃ e5' e6',
    forS (gN 5) (B_law_numbered_0 A) (qs.map tp) [e0, e1, some (.loc L), some (.loc m), some (.int (k : Int)), e5, e6] (two st0 L m (.dk (kvN 0 σ.2)) (.lst (σ.2.map nD))) =
      .nx [e0, e1, some (.loc L), some (.loc m), some (.int (k : Int)), e5', e6'] (two st0 L m (.dk (kvN 0 (qs.foldl (vis x) σ).2)) (.lst ((qs.foldl (vis x) σ).2.map nD)))
  | [], σ, e5, e6, _, _, _ => ⟨e5, e6, rfl⟩
  | p :: qs, σ, e5, e6, hk, hs, hv => by
    have hy : p.f x < d := p.lt hx
    obtain ⟨e5', e6', ih⟩ := ln_inner (e0 := e0) (e1 := e1) hL hl hm hx hd qs (vis x σ p) (some (tp p)) (some (nD (p.f x))) (vis_get hk) (vis_same hs) (hv.vis hx p)
    refine ⟨e5', e6', ?_⟩
    rw [List.map_cons, x_forS_cons, List.foldl_cons, ← ih]
    have h1 := two_m (st := st0) (L := L) (X := .dk (kvN 0 σ.2)) (Y := .lst (σ.2.map nD)) hm
    have q1 := x_ixLoc (k := (k : Int)) h1
    rw [atI_map hk] at q1
    have q2 : ∀ s, fIx (tp p) (nD x) s = .ok (nD (p.f x)) s := fun s => by rw [tp, lD, nD, x_ixT, atI_tp _ hx]
    have h0 := two_L (st := st0) (X := .dk (kvN 0 σ.2)) (Y := .lst (σ.2.map nD)) hL hl
    have q3 := kvN_in (y := p.f x) h0
    by_cases c : p.f x ∈ σ.2
    · have ev : vis x σ p = σ := by rw [vis, if_pos (by rw [hs]; exact c)]
      rw [ev]
      rw [decide_eq_true c] at q3
      simp only [nD] at q1 q2 q3 ⊢
      simp [b_law_numbered_0, q1, q2, q3]
    · have ev : (vis x σ p).2 = σ.2 ++ [p.f x] := by rw [vis, if_neg (by rw [hs]; exact c)]
      rw [ev]
      rw [decide_eq_false c] at q3
      have ql := x_lenLoc h1
      rw [List.length_map] at ql
      have q4 := kvN_set h0 c (by have := hv.len2; omega)
      rw [two_setL hL] at q4
      have h2 := two_m (st := st0) (L := L) (X := .dk (kvN 0 (σ.2 ++ [p.f x]))) (Y := .lst (σ.2.map nD)) hm
      have q5 := x_app (d := nD (p.f x)) h2 (small1000 (by have := hv.len2; simp; omega))
      rw [two_setm] at q5
      have hlo : Fx.listOf (.loc m) (two st0 L m (.dk (kvN 0 (σ.2 ++ [p.f x]))) (.lst (σ.2.map nD))) = some (σ.2.map nD) := by simp only [Fx.listOf, h2]
      have em : (σ.2 ++ [p.f x]).map nD = σ.2.map nD ++ [nD (p.f x)] := by simp
      rw [em]
      simp only [nD] at q1 q2 q3 q4 q5 hlo ⊢
      simp [b_law_numbered_0, q1, q2, q3, ql, q4, q5, hlo]
theorem ln_while {st0 : Store} {L m : Nat} {e1 : Option D} (hL : L ≠ m) (hl : L < st0.length) (hm : m < st0.length) (hd : d ≤ 900) : ∀ (n k : Nat) (σ : List Nat × List Nat) (e5 e6 : Option D), d ≤ k + n → σ.1 = σ.2 → Inv2 d σ → ∃ (k' : Int) (e5' e6' : Option D),
    sWhile c_law_numbered_0 (B_law_numbered_1 A) [some (sysD ps), e1, some (.loc L), some (.loc m), some (.int (k : Int)), e5, e6] (two st0 L m (.dk (kvN 0 σ.2)) (.lst (σ.2.map nD))) =
      .nx [some (sysD ps), e1, some (.loc L), some (.loc m), some (.int k'), e5', e6'] (two st0 L m (.dk (kvN 0 (bfs ps n k σ).2)) (.lst ((bfs ps n k σ).2.map nD)))
  | n, k, σ, e5, e6, hk, hs, hv => by
    have ql := x_lenLoc (two_m (st := st0) (L := L) (X := .dk (kvN 0 σ.2)) (Y := .lst (σ.2.map nD)) hm)
    rw [List.length_map] at ql
    have stop : ¬ k < σ.2.length → ∃ (k' : Int) (e5' e6' : Option D),
        sWhile c_law_numbered_0 (B_law_numbered_1 A) [some (sysD ps), e1, some (.loc L), some (.loc m), some (.int (k : Int)), e5, e6] (two st0 L m (.dk (kvN 0 σ.2)) (.lst (σ.2.map nD))) =
          .nx [some (sysD ps), e1, some (.loc L), some (.loc m), some (.int k'), e5', e6'] (two st0 L m (.dk (kvN 0 σ.2)) (.lst (σ.2.map nD))) := fun h => by
      refine ⟨k, e5, e6, ?_⟩
      rw [sWhile_eq]
      simp [c_law_numbered_0, ql, h]
    cases n with
    | zero => exact stop (by have := hv.len2; omega)
    | succ n =>
      rw [bfs]
      cases hx : σ.2[k]? with
      | none => exact stop (by have := List.getElem?_eq_none_iff.mp hx; omega)
      | some x =>
        have hxl := (List.getElem?_eq_some_iff.mp hx).1
        have hxd : x < d := hv.lt x (hv.sub x (List.mem_of_getElem? hx))
        obtain ⟨e5', e6', q1⟩ := ln_inner (A := A) (e0 := some (sysD ps)) (e1 := e1) hL hl hm hxd hd ps σ e5 e6 hx hs hv
        obtain ⟨k', e5'', e6'', q2⟩ := ln_while (e1 := e1) hL hl hm hd n (k + 1) (ps.foldl (vis x) σ) e5' e6' (by omega) (visf_same ps hs) (hv.fold hxd ps)
        refine ⟨k', e5'', e6'', ?_⟩
        simp only
        rw [← q2, sWhile_eq]
        obtain ⟨XS, hX⟩ : ∃ XS, XS = ps.map tp := ⟨_, rfl⟩
        have eR : rD ps = .tup XS := by rw [hX]; rfl
        have f1 := fIx1 (ps := ps) (st := two st0 L m (.dk (kvN 0 σ.2)) (.lst (σ.2.map nD)))
        rw [eR] at f1
        rw [← hX] at q1
        simp [c_law_numbered_0, ql, hxl, b_law_numbered_1, f1, q1]
theorem law_numbered_eq {x : Nat} {st : Store} (hd : d ≤ 24) (hr : ps.length ≤ 12) (hc : (parts ps).length = 1) (hx : x < d) : S_law_numbered A [sysD ps, nD x] st = .ok (sysD (numb ps x)) st := by
  obtain ⟨k', e5', e6', q1⟩ := ln_while (A := A) (ps := ps) (st0 := st ++ [.dk (kvN 0 [x]), .lst [nD x]]) (L := st.length) (m := st.length + 1) (e1 := some (nD x)) (by omega) (by simp) (by simp) (by omega) d 0 ([x], [x]) none none (by omega) rfl (invx hx)
  have e0 : two (st ++ [.dk (kvN 0 [x]), .lst [nD x]]) st.length (st.length + 1) (.dk (kvN 0 [x])) (.lst ([x].map nD)) = st ++ [.dk (kvN 0 [x]), .lst [nD x]] := by simp [two]
  simp only at q1
  obtain ⟨O, hO⟩ : ∃ O, O = ordr ps x := ⟨_, rfl⟩
  rw [show (bfs ps d 0 ([x], [x])).2 = O from hO.symm, e0] at q1
  have e2 : two (st ++ [.dk (kvN 0 [x]), .lst [nD x]]) st.length (st.length + 1) (.dk (kvN 0 O)) (.lst (O.map nD)) = st ++ [.dk (kvN 0 O), .lst (O.map nD)] := by simp [two]
  rw [e2] at q1
  have hall := ordr_all hc hx
  obtain ⟨S', hS'⟩ : ∃ S', S' = st ++ [.dk (kvN 0 O), .lst (O.map nD)] := ⟨_, rfl⟩
  have hL : S'[st.length]? = some (.dk (kvN 0 O)) := by rw [hS']; simp
  rw [← hS'] at q1
  have c : compS (gN 6) mYes e_law_numbered_0 [6] (rangeD 0 (d : Int)) [some (sysD ps), some (nD x), some (.loc st.length), some (.loc (st.length + 1)), some (.int k'), e5', e6'] S' [] = .ok ((num ps x).inv.list.map nD) S' := by
    rw [range_nD]
    refine comp_f (p := (num ps x).inv) (by omega) fun y hy => ⟨_, rfl, ?_⟩
    have a2 := kvN_get hL (by rw [hO]; exact hall y hy)
    rw [hO, num_b hc hx hy] at a2
    simp only [nD] at a2 ⊢
    simp [e_law_numbered_0, a2]
  have qt := turned_system_eq (A := A) (ps := ps) (f := (num ps x).inv) (st := S') (by omega) (by omega)
  rw [show (ps.map fun p => (num ps x).inv.inv * (p * (num ps x).inv)) = numb ps x from rfl] at qt
  have zq : szFits ((num ps x).inv.list.map nD).length = true := szFits_of (by simp [Pm.len]; omega)
  have z : w62 (d : Int) = true := w62_of (by omega) (by omega)
  rw [S_law_numbered_eq]
  refine gc_ok [.dk (kvN 0 O), .lst (O.map nD)] (runF_rt ?_) (wf_lf _ lf_sysD)
  rw [← hS']
  have kE : kvN 0 [x] = [(.inl (x : Int), .int 0)] := rfl
  rw [kE] at q1
  have i0 : ((0 : Nat) : Int) = 0 := rfl
  rw [i0] at q1
  obtain ⟨XQ, hXQ⟩ : ∃ XQ, XQ = (num ps x).inv.list.map nD := ⟨_, rfl⟩
  have eT : tp (num ps x).inv = .tup XQ := by rw [hXQ]; rfl
  rw [eT] at qt
  rw [← hXQ] at c zq
  obtain ⟨RS, hRS⟩ : ∃ RS, RS = sysD (numb ps x) := ⟨_, rfl⟩
  rw [← hRS] at qt ⊢
  simp only [nD] at q1 c ⊢
  simp [m_law_numbered, N_law_numbered, q1, fIx0, z, c, qt, Fx.keyOf]
theorem numbs_comp {m : SE} {g : SG} {vs : List Nat} {τ : En} {st : Store} (hd : d ≤ 24) (h : ∀ x, x < d → ∃ τ1, g (nD x) (wipeE τ vs) = some τ1 ∧ m τ1 st = .ok (sysD (numb ps x)) st) : compS g mYes m vs (rangeD 0 (d : Int)) τ st [] = .ok ((List.range d).map fun x => sysD (numb ps x)) st := by
  rw [range_nD, compS_mapL (h := nD) (f := fun x => sysD (numb ps x))]
  · simp
  · intro x hx
    obtain ⟨τ1, e1, e2⟩ := h x (List.mem_range.mp hx)
    exact ⟨τ1, e1, rfl, e2⟩
  · simpa using small (by omega)
theorem lf_least (hd : 0 < d) : lf (leastD ps) = true := by
  obtain ⟨x, _, e⟩ := least_mem (ps := ps) hd
  rw [e]; exact lf_sysD
theorem law_least_eq {st : Store} (hd0 : 0 < d) (hd : d ≤ 24) (hr : ps.length ≤ 12) (hc : (parts ps).length = 1) : S_law_least A [sysD ps] st = .ok (leastD ps) st := by
  have c := numbs_comp (ps := ps) (g := gN 1) (m := e_law_least_0 (S_law_numbered A)) (vs := [1]) (τ := [some (sysD ps), none]) (st := st) hd (fun x hx => ⟨_, rfl, by
    have q := law_numbered_eq (A := A) (st := st) hd hr hc hx
    simp only [nD] at q ⊢
    simp [e_law_least_0, q]⟩)
  have q := least_min (ps := ps) (st := st) hd0
  have z : w62 (d : Int) = true := w62_of (by omega) (by omega)
  rw [S_law_least_eq]
  refine gc_ok [] (runF_rt ?_) (wf_lf _ (lf_least hd0))
  obtain ⟨L, hL⟩ : ∃ L, L = (List.range d).map fun x => sysD (numb ps x) := ⟨_, rfl⟩
  rw [← hL] at c q
  simp [m_law_least, N_law_least, fIx0, z, c, q]
theorem least_system_eq {st : Store} (hd0 : 0 < d) (h : Sys ps) (hc : (parts ps).length = 1) : S_least_system A [sysD ps] st = .ok (leastD ps) st := by
  have hd := h.few
  have q1 := check_connected_of (A := A) (st := st) h
  rw [connB, decide_eq_true hc, if_pos rfl] at q1
  have c := numbs_comp (ps := ps) (g := gN 1) (m := e_least_system_0 (S_counted_from A)) (vs := [1]) (τ := [some (sysD ps), none]) (st := st) hd (fun x hx => ⟨_, rfl, by
    have q := counted_from_eq (A := A) (st := st) hd h.rank hc hx
    simp only [nD] at q ⊢
    simp [e_least_system_0, q]⟩)
  have q := least_min (ps := ps) (st := st) hd0
  have z : w62 (d : Int) = true := w62_of (by omega) (by omega)
  rw [S_least_system_eq]
  refine gc_ok [] (runF_rt ?_) (wf_lf _ (lf_least hd0))
  obtain ⟨L, hL⟩ : ∃ L, L = (List.range d).map fun x => sysD (numb ps x) := ⟨_, rfl⟩
  rw [← hL] at c q
  simp [m_least_system, N_least_system, q1, fIx0, z, c, q]
theorem numbered_from_eq {x : Nat} {st : Store} (h : Sys ps) (hc : (parts ps).length = 1) (hx : x < d) : S_numbered_from A [sysD ps, nD x] st = .ok (sysD (numb ps x)) st := by
  have q1 := check_connected_of (A := A) (st := st) h
  rw [connB, decide_eq_true hc, if_pos rfl] at q1
  have q2 := check_sheet_eq (A := A) (ps := ps) (x := nD x) (st := st) rfl
  rw [show sheetB (nD x) d = true by simp [sheetB, nD]; omega, if_pos rfl] at q2
  have q3 := counted_from_eq (A := A) (st := st) h.few h.rank hc hx
  rw [S_numbered_from_eq]
  refine gc_ok [] (runF_rt ?_) (wf_lf _ lf_sysD)
  obtain ⟨RS, hRS⟩ : ∃ RS, RS = sysD (numb ps x) := ⟨_, rfl⟩
  rw [← hRS] at q3 ⊢
  simp only [nD] at q2 q3 ⊢
  simp [m_numbered_from, N_numbered_from, q1, q2, q3]
theorem inner_tp {n : Nat} {p : Pm d} {st : Store} (h : d ≤ 1000) : S_law_inner A (n + 2) [tp p] st = .ok (tp p) st := by
  refine inner_tup (fun x hx => ?_) (by simp [p.len]; omega) (lf_tp p)
  obtain ⟨i, _, rfl⟩ := List.mem_map.mp hx
  exact inner_int
theorem inner_rD {n : Nat} {st : Store} (h : d ≤ 1000) (hl : ps.length ≤ 1000) : S_law_inner A (n + 3) [rD ps] st = .ok (rD ps) st := by
  refine inner_tup (fun x hx => ?_) (by simpa using hl) (lf_rD ps)
  obtain ⟨i, _, rfl⟩ := List.mem_map.mp hx
  exact inner_tp h
theorem plain_sysD {st : Store} (h : d ≤ 1000) (hl : ps.length ≤ 1000) : S_law_plain A [sysD ps] st = .ok (sysD ps) st := by
  refine plain_tup (inner_tup (fun x hx => ?_) (by simp) (by simp [sysD])) (by simp [sysD])
  simp only [List.mem_cons, List.not_mem_nil, or_false] at hx
  rcases hx with rfl | rfl
  · exact inner_int
  · exact inner_rD h hl
end
theorem led_comp {ps : List (Pm d)} {is : List Int} {st : Store} {n : Nat} {m : SE} {g : SG} {vs : List Nat} {τ : En} (hd : d ≤ 1000) (h : ∀ x, x < d → ∃ τ1, g (nD x) (wipeE τ vs) = some τ1 ∧ m τ1 st = .ok (nD ((wact ps is).f x)) st) : compS g mYes m vs ((List.range d).map nD) τ st [] = .ok ((wact ps is).list.map nD) st := by
  rw [compS_mapL (h := nD) (f := fun x => nD ((wact ps is).f x))]
  · simp [Pm.list, Function.comp_def]
  · intro x hx
    rw [List.mem_range] at hx
    obtain ⟨τ1, e1, e2⟩ := h x hx
    exact ⟨τ1, e1, rfl, e2⟩
  · simpa using small hd
theorem word_perm_ok {ps : List (Pm d)} {is : List Int} {st : Store} (h : Sys ps) (hw : Wd ps.length is) : S_word_permutation A [sysD ps, wD is] st = .ok (tp (wact ps is)) st := by
  have hd := h.few
  have c1 := check_system_ok (A := A) (st := st) h
  have c3 := check_word_ok (A := A) (st := st) hw h.rank
  have c4 := tables_eq (A := A) (st := st) h
  have k1 := led_comp (ps := ps) (is := is) (st := st ++ [.dk (tabL ps 0)]) (n := 0) (m := e_word_permutation_0 (S_led_along A)) (g := gN 3) (vs := [3]) (τ := [some (sysD ps), some (wD is), some (.loc st.length), none]) (by omega) (fun x hx => ⟨_, rfl, by
    have c5 := led_eq (A := A) (ps := ps) (is := is) (st := st ++ [.dk (tabL ps 0)]) (n := st.length) (x := x) (by simp) hw.let_ hx
    simp only [nD] at c5
    simp [e_word_permutation_0, c5]⟩)
  have z : w62 (d : Int) = true := w62_of (by omega) (by omega)
  rw [S_word_permutation_eq]
  refine gc_ok [.dk (tabL ps 0)] (runF_rt ?_) (wf_lf _ (lf_tp _))
  simp [m_word_permutation, N_word_permutation, c1, fIx1, fIx0, fLen_rD, c3, c4, z, range_nD, k1]
  rfl
theorem words_comp {ps : List (Pm d)} {ws : List D} {st : Store} {τ2 τ3 τ4 : Option D} (h : Sys ps) (hw : ∀ w ∈ ws, okW w) (hl : ws.length ≤ 100) : compS (gN 3) mYes (e_told_system_2 (S_is_word A)) [3] ws [some (sysD ps), some (.tup ws), τ2, τ3, τ4] st [] = .ok ((ws.map fun w => wordB w ps.length).map D.bl) st := by
  rw [compS_map (f := fun w => .bl (wordB w ps.length))]
  · simp
  · intro w hw1
    exact ⟨_, rfl, rfl, by simp [e_told_system_2, fIx1, fLen_rD, is_word_eq (A := A) (hw w hw1) h.rank]⟩
  · exact small (by simp; omega)
theorem told_system_ok {ps : List (Pm d)} {ws : List (List Int)} {st : Store} (h : Sys ps) (hw : ∀ w ∈ ws, Wd ps.length w) (hl : ws.length ≤ 12) : S_told_system A [sysD ps, .tup (ws.map wD)] st = .ok (sysD (ws.map (wact ps))) st := by
  have hd := h.few
  have c1 := check_system_ok (A := A) (st := st) h
  have c4 := tables_eq (A := A) (st := st) h
  have z : w62 (d : Int) = true := w62_of (by omega) (by omega)
  have k1 := words_comp (A := A) (ps := ps) (ws := ws.map wD) (st := st) (τ2 := none) (τ3 := none) (τ4 := none) h (fun w hw1 => by
    obtain ⟨is, _, rfl⟩ := List.mem_map.mp hw1; exact okW_wD) (by simp; omega)
  have hb : ((ws.map wD).map fun w => wordB w ps.length).all id = true := by
    rw [List.all_map, List.all_map, List.all_eq_true]
    intro w hw1
    exact wordB_wD (hw w hw1)
  have a2 : fAll [.lst (((ws.map wD).map fun w => wordB w ps.length).map D.bl)] st = .ok (.bl true) st := by
    unfold fAll
    rw [x_onBls, hb]
  have k2 : compS (gN 3) mYes (e_told_system_1 (S_led_along A)) [3] (ws.map wD) [some (sysD ps), some (.tup (ws.map wD)), some (.loc st.length), none, none] (st ++ [.dk (tabL ps 0)]) [] = .ok ((ws.map (wact ps)).map tp) (st ++ [.dk (tabL ps 0)]) := by
    rw [compS_mapL (f := fun w => tp (wact ps w))]
    · simp
    · intro w hw1
      refine ⟨_, rfl, rfl, ?_⟩
      have k3 := led_comp (ps := ps) (is := w) (st := st ++ [.dk (tabL ps 0)]) (n := 0) (m := e_told_system_0 (S_led_along A)) (g := gN 4) (vs := [4]) (τ := [some (sysD ps), some (.tup (ws.map wD)), some (.loc st.length), some (wD w), none]) (by omega) (fun x hx => ⟨_, rfl, by
        have c5 := led_eq (A := A) (ps := ps) (is := w) (st := st ++ [.dk (tabL ps 0)]) (n := st.length) (x := x) (by simp) (hw w hw1).let_ hx
        simp only [nD] at c5
        simp [e_told_system_0, c5]⟩)
      simp [e_told_system_1, fIx0, z, range_nD, k3]
      rfl
    · exact small (by simp; omega)
  obtain ⟨WS, hWS⟩ : ∃ WS, WS = ws.map wD := ⟨_, rfl⟩
  have hlen : WS.length = ws.length := by rw [hWS]; simp
  have c' : ¬ (12 : Int) < (ws.length : Int) := by omega
  rw [← hWS] at k1 k2 a2 ⊢
  obtain ⟨L2, hL2⟩ : ∃ L2, L2 = (WS.map fun w => wordB w ps.length).map D.bl := ⟨_, rfl⟩
  rw [← hL2] at k1 a2
  obtain ⟨L3, hL3⟩ : ∃ L3, L3 = (ws.map (wact ps)).map tp := ⟨_, rfl⟩
  rw [← hL3] at k2
  have er : sysD (ws.map (wact ps)) = .tup [.int (d : Int), .tup L3] := by rw [hL3]; rfl
  rw [S_told_system_eq]
  refine gc_ok [.dk (tabL ps 0)] (runF_rt ?_) (wf_lf _ (by simp [sysD]))
  rw [er]
  simp [m_told_system, N_told_system, c1, hlen, c', k1, a2, c4, fIx0, k2]
theorem law_word_eq {s t : Int} {k m : Nat} (hs : 0 ≤ s) (hk : k ≤ 12) (hm : m ≤ 100) : ∃ (is : List Int) (s' t' : Int), S_law_word A [.loc 0, .int (k : Int), .int (m : Int)] [stt s t] = .ok (wD is) [stt s' t'] ∧ 0 ≤ s' ∧ is.length ≤ m ∧ ∀ i ∈ is, 1 ≤ i.natAbs ∧ i.natAbs ≤ k := by
  by_cases c : k = 0
  · subst c
    refine ⟨[], s, t, ?_, hs, by simp, by simp⟩
    rw [S_law_word_eq]
    refine gc_ok [] (runF_rt ?_) (wf_lf _ lf_wD)
    simp [m_law_word, N_law_word, wD]
  · have c' : ¬ (k : Int) = 0 := by omega
    have ql := letters_eq (A := A) (k := k) (st := [stt s t]) hk
    have hl := ltrs_len k
    have hls : ∀ i ∈ ltrs k, 1 ≤ i.natAbs ∧ i.natAbs ≤ k := fun i hi => ltrs_mem.mp hi
    obtain ⟨ls, hLs⟩ : ∃ ls, ls = ltrs k := ⟨_, rfl⟩
    rw [← hLs] at ql hl hls
    obtain ⟨v, s1, t1, q1, hv, hs1⟩ := take_nat (A := A) (s := s) (t := t) (n := m + 1) (r := []) hs (by omega) (by omega)
    have em : (((m + 1 : Nat) : Nat) : Int) = (m : Int) + 1 := by omega
    rw [em] at q1
    have z : w62 (v : Int) = true := w62_of (by omega) (by omega)
    obtain ⟨st', acc', e, s', t', is, e1, hs', e2, hn, hi⟩ := compS_ind (g := gN 4) (t := mYes) (m := E_law_word_0 A) (vs := [4]) (τ := [some (.loc 0), some (.int (k : Int)), some (.int (m : Int)), some (.lst (ls.map D.int)), none])
      (P := fun ds st acc => ∃ (s t : Int) (is : List Int), st = [stt s t] ∧ 0 ≤ s ∧ acc = is.map D.int ∧ is.length + ds.length = v ∧ ∀ i ∈ is, 1 ≤ i.natAbs ∧ i.natAbs ≤ k)
      (fun y ys st acc ⟨s, t, is, e1, hs, e2, hn, hi⟩ => by
        subst e1 e2
        simp only [List.length_cons] at hn
        obtain ⟨u, s2, t2, q2, hu, hs2⟩ := take_nat (A := A) (s := s) (t := t) (n := 2 * k) (r := []) hs (by omega) (by omega)
        have e2k : (((2 * k : Nat) : Nat) : Int) = 2 * (k : Int) := by omega
        rw [e2k] at q2
        have hul : u < ls.length := by omega
        have qi : atI (ls.map D.int) (u : Int) = some (.int ls[u]) := atI_map (List.getElem?_eq_getElem hul)
        have zm : mulFits 2 (k : Int) = true := mulFits_r (by omega) (by omega)
        refine ⟨_, rfl, .inl ⟨_, .int ls[u], [stt s2 t2], rfl, by simp [e_law_word_0, zm, q2, qi], small1000 (by simp; omega), s2, t2, is ++ [ls[u]], rfl, hs2, by simp, by simp; omega, fun i hi' => ?_⟩⟩
        rcases List.mem_append.mp hi' with h | h
        · exact hi i h
        · rw [List.mem_singleton] at h; subst h; exact hls _ (List.getElem_mem hul))
      (rangeD 0 (v : Int)) [stt s1 t1] [] ⟨s1, t1, [], rfl, hs1, rfl, by simp, by simp⟩
    subst e1 e2
    refine ⟨is, s', t', ?_, hs', by simp at hn; omega, hi⟩
    rw [S_law_word_eq]
    refine gc_ok' [] (runF_rt ?_) rfl ?_ (wf_lf _ lf_wD)
    · simp [m_law_word, N_law_word, c, ql, q1, z, e, wD]
    · intro i o h
      cases i with
      | zero => simp at h; subst h; simp [WfO, WfDs, WfD]
      | succ i => simp at h
end K25

set_option Elab.async false
set_option linter.all false
set_option maxRecDepth 100000
set_option maxHeartbeats 4000000
namespace K25
open PySem L2 Fx
variable {A : Nat → Addr} {d : Nat}
theorem rd_while {p : Pm d} {st0 : Store} {L m : Nat} {e2 e3 : Option D} (hL : L ≠ m) (hl : L < st0.length) (hm : m < st0.length) (hd : d ≤ 900) : ∀ (n : Nat) (seen done : List Nat) (y : Nat), d ≤ seen.length + n → seen.Nodup → (∀ x ∈ seen, x < d) → (∀ x ∈ done, x ∈ seen) → done.Nodup → y < d → ∃ y' : Nat,
    sWhile c_rounds_0 b_rounds_0 [some (tp p), some (.loc L), e2, e3, some (.loc m), some (nD y)] (two st0 L m (seenO d seen) (.lst (done.map nD))) =
      .nx [some (tp p), some (.loc L), e2, e3, some (.loc m), some (nD y')] (two st0 L m (seenO d (seen ++ ring p n seen y)) (.lst ((done ++ ring p n seen y).map nD)))
  | n, seen, done, y, hn, hnd, hlt, hsub, hdn, hy => by
    have q1 := seenO_get (two_L (st := st0) (X := seenO d seen) (Y := .lst (done.map nD)) hL hl) hy
    have stop : y ∈ seen → ∃ y' : Nat,
        sWhile c_rounds_0 b_rounds_0 [some (tp p), some (.loc L), e2, e3, some (.loc m), some (nD y)] (two st0 L m (seenO d seen) (.lst (done.map nD))) =
          .nx [some (tp p), some (.loc L), e2, e3, some (.loc m), some (nD y')] (two st0 L m (seenO d (seen ++ ring p n seen y)) (.lst ((done ++ ring p n seen y).map nD))) := fun h => by
      refine ⟨y, ?_⟩
      rw [ring_nil h, List.append_nil, List.append_nil, sWhile_eq]
      simp [c_rounds_0, q1, h]
    by_cases c : y ∈ seen
    · exact stop c
    · cases n with
      | zero => exact absurd (nodup_all (D := List.range d) hnd (fun x hx => List.mem_range.mpr (hlt x hx)) (by simp; omega) y (List.mem_range.mpr hy)) c
      | succ n =>
        have hdl := nodup_len (D := List.range d) hdn fun x hx => List.mem_range.mpr (hlt x (hsub x hx))
        simp at hdl
        obtain ⟨y', ih⟩ := rd_while (p := p) (e2 := e2) (e3 := e3) hL hl hm hd n (seen ++ [y]) (done ++ [y]) (p.f y) (by simp; omega) (nodup_snoc hnd c) (fun x hx => by
          rcases List.mem_append.mp hx with hx | hx
          · exact hlt x hx
          · rw [List.mem_singleton] at hx; omega) (fun x hx => by
          rcases List.mem_append.mp hx with hx | hx
          · exact List.mem_append_left _ (hsub x hx)
          · exact List.mem_append_right _ hx) (nodup_snoc hdn fun z => c (hsub _ z)) (p.lt hy)
        refine ⟨y', ?_⟩
        rw [ring_cons c]
        have a1 : seen ++ y :: ring p n (seen ++ [y]) (p.f y) = (seen ++ [y]) ++ ring p n (seen ++ [y]) (p.f y) := by simp
        have a2 : done ++ y :: ring p n (seen ++ [y]) (p.f y) = (done ++ [y]) ++ ring p n (seen ++ [y]) (p.f y) := by simp
        rw [a1, a2, ← ih, sWhile_eq]
        have q2 := seenO_set (two_L (st := st0) (X := seenO d seen) (Y := .lst (done.map nD)) hL hl) hy
        rw [two_setL hL] at q2
        have q3 := x_app (d := nD y) (two_m (st := st0) (L := L) (X := seenO d (seen ++ [y])) (Y := .lst (done.map nD)) hm) (small1000 (by simp; omega))
        rw [two_setm] at q3
        have q4 := two_m (st := st0) (L := L) (X := seenO d (seen ++ [y])) (Y := .lst (done.map nD)) hm
        have q5 : ∀ s, fIx (tp p) (nD y) s = .ok (nD (p.f y)) s := fun s => by rw [tp, lD, nD, x_ixT, atI_tp _ hy]
        simp [c_rounds_0, b_rounds_0, q1, c, q2, q3, q4, q5, Fx.listOf]
theorem rd_outer {p : Pm d} {st : Store} (hd : d ≤ 900) : ∀ (n j : Nat) (t : List Nat × List (List Nat)) (g : Store) (e3 e4 e5 : Option D), j + n = d → t.1.Nodup → (∀ x ∈ t.1, x < d) → t.2.length ≤ j → ∃ (g' : Store) (e3' e4' e5' : Option D),
    forS (gN 3) b_rounds_1 ((List.range' j n).map nD) [some (tp p), some (.loc st.length), some (.loc (st.length + 1)), e3, e4, e5] (st ++ seenO d t.1 :: .lst (t.2.map lD) :: g) =
      .nx [some (tp p), some (.loc st.length), some (.loc (st.length + 1)), e3', e4', e5'] (st ++ seenO d ((List.range' j n).foldl (cyc1 p) t).1 :: .lst (((List.range' j n).foldl (cyc1 p) t).2.map lD) :: g')
  | 0, j, t, g, e3, e4, e5, _, _, _, _ => ⟨g, e3, e4, e5, rfl⟩
  | n + 1, j, t, g, e3, e4, e5, hj, hn, hlt, htl => by
    have hjd : j < d := by omega
    rw [List.range'_succ, List.map_cons, List.foldl_cons, x_forS_cons]
    have q0 := seenO_get (st := st ++ seenO d t.1 :: .lst (t.2.map lD) :: g) (L := st.length) (seen := t.1) (by simp) hjd
    by_cases c : j ∈ t.1
    · have eo : cyc1 p t j = t := by rw [cyc1, if_pos c]
      obtain ⟨g', a3, a4, a5, ih⟩ := rd_outer (p := p) (st := st) hd n (j + 1) t g (some (nD j)) e4 e5 (by omega) hn hlt (by omega)
      refine ⟨g', a3, a4, a5, ?_⟩
      rw [eo, ← ih]
      simp [b_rounds_1, q0, c]
    · have eo : cyc1 p t j = (t.1 ++ ring p d t.1 j, t.2 ++ [ring p d t.1 j]) := by rw [cyc1, if_neg c]
      obtain ⟨S0, hS0⟩ : ∃ S0, S0 = st ++ seenO d t.1 :: .lst (t.2.map lD) :: (g ++ [.lst []]) := ⟨_, rfl⟩
      have hl0 : S0.length = st.length + 2 + g.length + 1 := by rw [hS0]; simp; omega
      have hm0 : st.length ≠ st.length + 2 + g.length := by omega
      have w (X Y : O) : two S0 st.length (st.length + 2 + g.length) X Y = st ++ X :: .lst (t.2.map lD) :: (g ++ [Y]) := by
        rw [hS0, two, List.set_append_right _ _ (by omega), List.set_append_right _ _ (by omega)]
        rw [show st.length - st.length = 0 by omega, show st.length + 2 + g.length - st.length = g.length + 1 + 1 by omega]
        rw [List.set_cons_zero, List.set_cons_succ, List.set_cons_succ, List.set_append_right _ _ (by omega), Nat.sub_self]; rfl
      obtain ⟨y', qw⟩ := rd_while (p := p) (st0 := S0) (L := st.length) (m := st.length + 2 + g.length) (e2 := some (.loc (st.length + 1))) (e3 := some (nD j)) hm0 (by omega) (by omega) hd d t.1 [] j (by omega) hn hlt (by simp) .nil hjd
      have hrl := ring_lt (p := p) (n := d) (seen := t.1) hjd
      have hrn := ring_nodup (p := p) (n := d) (seen := t.1) (y := j)
      have hrw := ring_new (p := p) (n := d) (seen := t.1) (y := j)
      obtain ⟨ρ, hρ⟩ : ∃ ρ, ρ = ring p d t.1 j := ⟨_, rfl⟩
      rw [← hρ] at qw eo hrl hrn hrw
      have em : ([] : List Nat).map nD = [] := rfl
      simp only [em, w, List.nil_append] at qw
      obtain ⟨g', b3, b4, b5, ih⟩ := rd_outer (p := p) (st := st) hd n (j + 1) (t.1 ++ ρ, t.2 ++ [ρ]) (g ++ [.lst (ρ.map nD)]) (some (nD j)) (some (.loc (st.length + 2 + g.length))) (some (nD y')) (by omega)
        (List.nodup_append.mpr ⟨hn, hrn, fun a ha b hb e => hrw b hb (e ▸ ha)⟩) (fun x hx => by
          rcases List.mem_append.mp hx with hx | hx
          · exact hlt x hx
          · exact hrl x hx) (by simp; omega)
      refine ⟨g', b3, b4, b5, ?_⟩
      rw [eo, ← ih]
      have q2 := x_tupleLoc (st := st ++ seenO d (t.1 ++ ρ) :: .lst (t.2.map lD) :: (g ++ [.lst (ρ.map nD)])) (i := st.length + 2 + g.length) (xs := ρ.map nD) (by rw [List.getElem?_append_right (by omega), show st.length + 2 + g.length - st.length = g.length + 1 + 1 by omega]; simp)
      have q3 := x_app (st := st ++ seenO d (t.1 ++ ρ) :: .lst (t.2.map lD) :: (g ++ [.lst (ρ.map nD)])) (n := st.length + 1) (xs := t.2.map lD) (d := lD ρ) (by simp) (small1000 (by simp; omega))
      have q4 : (st ++ seenO d (t.1 ++ ρ) :: .lst (t.2.map lD) :: (g ++ [.lst (ρ.map nD)]))[st.length + 1]? = some (.lst (t.2.map lD)) := by simp
      have w2 : (st ++ seenO d (t.1 ++ ρ) :: .lst (t.2.map lD) :: (g ++ [.lst (ρ.map nD)])).set (st.length + 1) (.lst (t.2.map lD ++ [lD ρ])) = st ++ seenO d (t.1 ++ ρ) :: .lst ((t.2 ++ [ρ]).map lD) :: (g ++ [.lst (ρ.map nD)]) := by
        rw [List.set_append_right _ _ (by omega), show st.length + 1 - st.length = 0 + 1 by omega, List.set_cons_succ, List.set_cons_zero, List.map_append]; rfl
      rw [w2] at q3
      have el : st.length + (g.length + 1 + 1) = st.length + 2 + g.length := by omega
      have pd : lD ρ = .tup (ρ.map nD) := rfl
      rw [pd] at q3
      simp only [nD] at q0 qw q2 q3 ⊢
      simp [b_rounds_1, q0, c, el, qw, q2, Fx.listOf, q4, q3]
theorem rounds_eq {p : Pm d} {st : Store} (hd : d ≤ 900) : S_rounds A [tp p] st = .ok (.lst ((cycs p).map lD)) st := by
  obtain ⟨g', a3, a4, a5, e⟩ := rd_outer (p := p) (st := st) hd d 0 ([], []) [] none none none (by omega) .nil (by simp) (by simp)
  rw [← List.range_eq_range', ← range_nD] at e
  have z : w62 (d : Int) = true := w62_of (by omega) (by omega)
  have z63 : w63 (d : Int) = true := w63_of (by omega) (by omega)
  have zs : szFits d = true := szFits_of (by omega)
  have ql := fLen_tp (p := p) (st := st)
  have es : O.lst (List.replicate d (D.bl false)) = seenO d [] := by
    unfold seenO
    congr 1
    refine List.ext_getElem (by simp) fun n h1 h2 => by simp
  rw [S_rounds_eq]
  refine gc_lst (seenO d ((List.range d).foldl (cyc1 p) ([], [])).1 :: .lst ((cycs p).map lD) :: g') (runF_rt ?_) (i := st.length + 1) (xs := (cycs p).map lD) (by omega) (by simp) (wf_lfs _ (by simp [lfs_all, List.all_map]))
  simp only [List.map_nil] at e
  have ql2 := fLen_tp (p := p) (st := st ++ [seenO d [], .lst []])
  obtain ⟨PP, hPP⟩ : ∃ PP, PP = tp p := ⟨_, rfl⟩
  rw [← hPP] at e ql ql2 ⊢
  rw [cycs]
  simp [m_rounds, N_rounds, ql, ql2, z, z63, zs, es, e]
theorem lcy_while {p : Pm d} {st0 : Store} {L m : Nat} {e2 e3 : Option D} (hL : L ≠ m) (hl : L < st0.length) (hm : m < st0.length) (hd : d ≤ 900) : ∀ (n : Nat) (seen done : List Nat) (y : Nat), d ≤ seen.length + n → seen.Nodup → (∀ x ∈ seen, x < d) → (∀ x ∈ done, x ∈ seen) → done.Nodup → y < d → ∃ y' : Nat,
    sWhile c_law_cycles_0 b_law_cycles_0 [some (tp p), some (.loc L), e2, e3, some (.loc m), some (nD y)] (two st0 L m (seenO d seen) (.lst (done.map nD))) =
      .nx [some (tp p), some (.loc L), e2, e3, some (.loc m), some (nD y')] (two st0 L m (seenO d (seen ++ ring p n seen y)) (.lst ((done ++ ring p n seen y).map nD)))
  | n, seen, done, y, hn, hnd, hlt, hsub, hdn, hy => by
    have q1 := seenO_get (two_L (st := st0) (X := seenO d seen) (Y := .lst (done.map nD)) hL hl) hy
    have stop : y ∈ seen → ∃ y' : Nat,
        sWhile c_law_cycles_0 b_law_cycles_0 [some (tp p), some (.loc L), e2, e3, some (.loc m), some (nD y)] (two st0 L m (seenO d seen) (.lst (done.map nD))) =
          .nx [some (tp p), some (.loc L), e2, e3, some (.loc m), some (nD y')] (two st0 L m (seenO d (seen ++ ring p n seen y)) (.lst ((done ++ ring p n seen y).map nD))) := fun h => by
      refine ⟨y, ?_⟩
      rw [ring_nil h, List.append_nil, List.append_nil, sWhile_eq]
      simp [c_law_cycles_0, q1, h]
    by_cases c : y ∈ seen
    · exact stop c
    · cases n with
      | zero => exact absurd (nodup_all (D := List.range d) hnd (fun x hx => List.mem_range.mpr (hlt x hx)) (by simp; omega) y (List.mem_range.mpr hy)) c
      | succ n =>
        have hdl := nodup_len (D := List.range d) hdn fun x hx => List.mem_range.mpr (hlt x (hsub x hx))
        simp at hdl
        obtain ⟨y', ih⟩ := lcy_while (p := p) (e2 := e2) (e3 := e3) hL hl hm hd n (seen ++ [y]) (done ++ [y]) (p.f y) (by simp; omega) (nodup_snoc hnd c) (fun x hx => by
          rcases List.mem_append.mp hx with hx | hx
          · exact hlt x hx
          · rw [List.mem_singleton] at hx; omega) (fun x hx => by
          rcases List.mem_append.mp hx with hx | hx
          · exact List.mem_append_left _ (hsub x hx)
          · exact List.mem_append_right _ hx) (nodup_snoc hdn fun z => c (hsub _ z)) (p.lt hy)
        refine ⟨y', ?_⟩
        rw [ring_cons c]
        have a1 : seen ++ y :: ring p n (seen ++ [y]) (p.f y) = (seen ++ [y]) ++ ring p n (seen ++ [y]) (p.f y) := by simp
        have a2 : done ++ y :: ring p n (seen ++ [y]) (p.f y) = (done ++ [y]) ++ ring p n (seen ++ [y]) (p.f y) := by simp
        rw [a1, a2, ← ih, sWhile_eq]
        have q2 := seenO_set (two_L (st := st0) (X := seenO d seen) (Y := .lst (done.map nD)) hL hl) hy
        rw [two_setL hL] at q2
        have q3 := x_app (d := nD y) (two_m (st := st0) (L := L) (X := seenO d (seen ++ [y])) (Y := .lst (done.map nD)) hm) (small1000 (by simp; omega))
        rw [two_setm] at q3
        have q4 := two_m (st := st0) (L := L) (X := seenO d (seen ++ [y])) (Y := .lst (done.map nD)) hm
        have q5 : ∀ s, fIx (tp p) (nD y) s = .ok (nD (p.f y)) s := fun s => by rw [tp, lD, nD, x_ixT, atI_tp _ hy]
        simp [c_law_cycles_0, b_law_cycles_0, q1, c, q2, q3, q4, q5, Fx.listOf]
theorem lcy_outer {p : Pm d} {st : Store} (hd : d ≤ 900) : ∀ (n j : Nat) (t : List Nat × List (List Nat)) (g : Store) (e3 e4 e5 : Option D), j + n = d → t.1.Nodup → (∀ x ∈ t.1, x < d) → t.2.length ≤ j → ∃ (g' : Store) (e3' e4' e5' : Option D),
    forS (gN 3) b_law_cycles_1 ((List.range' j n).map nD) [some (tp p), some (.loc st.length), some (.loc (st.length + 1)), e3, e4, e5] (st ++ seenO d t.1 :: .lst (t.2.map lD) :: g) =
      .nx [some (tp p), some (.loc st.length), some (.loc (st.length + 1)), e3', e4', e5'] (st ++ seenO d ((List.range' j n).foldl (cyc1 p) t).1 :: .lst (((List.range' j n).foldl (cyc1 p) t).2.map lD) :: g')
  | 0, j, t, g, e3, e4, e5, _, _, _, _ => ⟨g, e3, e4, e5, rfl⟩
  | n + 1, j, t, g, e3, e4, e5, hj, hn, hlt, htl => by
    have hjd : j < d := by omega
    rw [List.range'_succ, List.map_cons, List.foldl_cons, x_forS_cons]
    have q0 := seenO_get (st := st ++ seenO d t.1 :: .lst (t.2.map lD) :: g) (L := st.length) (seen := t.1) (by simp) hjd
    by_cases c : j ∈ t.1
    · have eo : cyc1 p t j = t := by rw [cyc1, if_pos c]
      obtain ⟨g', a3, a4, a5, ih⟩ := lcy_outer (p := p) (st := st) hd n (j + 1) t g (some (nD j)) e4 e5 (by omega) hn hlt (by omega)
      refine ⟨g', a3, a4, a5, ?_⟩
      rw [eo, ← ih]
      simp [b_law_cycles_1, q0, c]
    · have eo : cyc1 p t j = (t.1 ++ ring p d t.1 j, t.2 ++ [ring p d t.1 j]) := by rw [cyc1, if_neg c]
      obtain ⟨S0, hS0⟩ : ∃ S0, S0 = st ++ seenO d t.1 :: .lst (t.2.map lD) :: (g ++ [.lst []]) := ⟨_, rfl⟩
      have hl0 : S0.length = st.length + 2 + g.length + 1 := by rw [hS0]; simp; omega
      have hm0 : st.length ≠ st.length + 2 + g.length := by omega
      have w (X Y : O) : two S0 st.length (st.length + 2 + g.length) X Y = st ++ X :: .lst (t.2.map lD) :: (g ++ [Y]) := by
        rw [hS0, two, List.set_append_right _ _ (by omega), List.set_append_right _ _ (by omega)]
        rw [show st.length - st.length = 0 by omega, show st.length + 2 + g.length - st.length = g.length + 1 + 1 by omega]
        rw [List.set_cons_zero, List.set_cons_succ, List.set_cons_succ, List.set_append_right _ _ (by omega), Nat.sub_self]; rfl
      obtain ⟨y', qw⟩ := lcy_while (p := p) (st0 := S0) (L := st.length) (m := st.length + 2 + g.length) (e2 := some (.loc (st.length + 1))) (e3 := some (nD j)) hm0 (by omega) (by omega) hd d t.1 [] j (by omega) hn hlt (by simp) .nil hjd
      have hrl := ring_lt (p := p) (n := d) (seen := t.1) hjd
      have hrn := ring_nodup (p := p) (n := d) (seen := t.1) (y := j)
      have hrw := ring_new (p := p) (n := d) (seen := t.1) (y := j)
      obtain ⟨ρ, hρ⟩ : ∃ ρ, ρ = ring p d t.1 j := ⟨_, rfl⟩
      rw [← hρ] at qw eo hrl hrn hrw
      have em : ([] : List Nat).map nD = [] := rfl
      simp only [em, w, List.nil_append] at qw
      obtain ⟨g', b3, b4, b5, ih⟩ := lcy_outer (p := p) (st := st) hd n (j + 1) (t.1 ++ ρ, t.2 ++ [ρ]) (g ++ [.lst (ρ.map nD)]) (some (nD j)) (some (.loc (st.length + 2 + g.length))) (some (nD y')) (by omega)
        (List.nodup_append.mpr ⟨hn, hrn, fun a ha b hb e => hrw b hb (e ▸ ha)⟩) (fun x hx => by
          rcases List.mem_append.mp hx with hx | hx
          · exact hlt x hx
          · exact hrl x hx) (by simp; omega)
      refine ⟨g', b3, b4, b5, ?_⟩
      rw [eo, ← ih]
      have q2 := x_tupleLoc (st := st ++ seenO d (t.1 ++ ρ) :: .lst (t.2.map lD) :: (g ++ [.lst (ρ.map nD)])) (i := st.length + 2 + g.length) (xs := ρ.map nD) (by rw [List.getElem?_append_right (by omega), show st.length + 2 + g.length - st.length = g.length + 1 + 1 by omega]; simp)
      have q3 := x_app (st := st ++ seenO d (t.1 ++ ρ) :: .lst (t.2.map lD) :: (g ++ [.lst (ρ.map nD)])) (n := st.length + 1) (xs := t.2.map lD) (d := lD ρ) (by simp) (small1000 (by simp; omega))
      have q4 : (st ++ seenO d (t.1 ++ ρ) :: .lst (t.2.map lD) :: (g ++ [.lst (ρ.map nD)]))[st.length + 1]? = some (.lst (t.2.map lD)) := by simp
      have w2 : (st ++ seenO d (t.1 ++ ρ) :: .lst (t.2.map lD) :: (g ++ [.lst (ρ.map nD)])).set (st.length + 1) (.lst (t.2.map lD ++ [lD ρ])) = st ++ seenO d (t.1 ++ ρ) :: .lst ((t.2 ++ [ρ]).map lD) :: (g ++ [.lst (ρ.map nD)]) := by
        rw [List.set_append_right _ _ (by omega), show st.length + 1 - st.length = 0 + 1 by omega, List.set_cons_succ, List.set_cons_zero, List.map_append]; rfl
      rw [w2] at q3
      have el : st.length + (g.length + 1 + 1) = st.length + 2 + g.length := by omega
      have pd : lD ρ = .tup (ρ.map nD) := rfl
      rw [pd] at q3
      simp only [nD] at q0 qw q2 q3 ⊢
      simp [b_law_cycles_1, q0, c, el, qw, q2, Fx.listOf, q4, q3]
theorem law_cycles_eq {p : Pm d} {st : Store} (hd : d ≤ 900) : S_law_cycles A [tp p] st = .ok (.lst ((cycs p).map lD)) st := by
  obtain ⟨g', a3, a4, a5, e⟩ := lcy_outer (p := p) (st := st) hd d 0 ([], []) [] none none none (by omega) .nil (by simp) (by simp)
  rw [← List.range_eq_range', ← range_nD] at e
  have z : w62 (d : Int) = true := w62_of (by omega) (by omega)
  have ql := fLen_tp (p := p) (st := st)
  have k1 : compS (gN 3) mYes e_law_cycles_0 [3] (p.list.map nD) [some (tp p), none, none, none, none, none] st [] = .ok ((List.range d).map fun _ => D.bl false) st := by
    rw [compS_map (f := fun _ => D.bl false)]
    · simp [Pm.list, Function.comp_def]
    · intro x _; exact ⟨_, rfl, rfl, rfl⟩
    · simpa [Pm.len] using small (by omega)
  have es : O.lst ((List.range d).map fun _ => D.bl false) = seenO d [] := by
    simp [seenO]
  rw [S_law_cycles_eq]
  refine gc_lst (seenO d ((List.range d).foldl (cyc1 p) ([], [])).1 :: .lst ((cycs p).map lD) :: g') (runF_rt ?_) (i := st.length + 1) (xs := (cycs p).map lD) (by omega) (by simp) (wf_lfs _ (by simp [lfs_all, List.all_map]))
  simp only [List.map_nil] at e
  have ql2 := fLen_tp (p := p) (st := st ++ [seenO d [], .lst []])
  obtain ⟨LL, hLL⟩ : ∃ LL, LL = (List.range d).map fun _ => D.bl false := ⟨_, rfl⟩
  rw [← hLL] at k1 es
  obtain ⟨XP, hXP⟩ : ∃ XP, XP = p.list.map nD := ⟨_, rfl⟩
  have eP : tp p = .tup XP := by rw [hXP]; rfl
  rw [← hXP] at k1
  rw [eP] at e ql ql2 k1 ⊢
  rw [cycs]
  simp [m_law_cycles, N_law_cycles, k1, es, ql, ql2, z, e]
theorem type_of_eq {p : Pm d} {st : Store} (hd : d ≤ 900) : S_type_of A [tp p] st = .ok (typeD p) st := by
  have q1 := rounds_eq (A := A) (p := p) (st := st) hd
  have hcl := cycs_le p
  have k1 : compS (gN 1) mYes e_type_of_0 [1] ((cycs p).map lD) [some (tp p), none] st [] = .ok (((lens p).map fun (k : Nat) => (k : Int)).map D.int) st := by
    rw [compS_mapL (f := fun c => D.int (c.length : Int))]
    · simp [lens]
    · intro c _
      exact ⟨_, rfl, rfl, by simp [e_type_of_0, lD]⟩
    · exact small (by simp; omega)
  have q2 := x_sortR (ns := (lens p).map fun (k : Nat) => (k : Int)) (st := st)
  rw [typeD_eq]
  rw [S_type_of_eq]
  refine gc_ok [] (runF_rt ?_) (wf_lf _ (by simp [List.all_map]))
  obtain ⟨L1, h1⟩ : ∃ L1, L1 = (cycs p).map lD := ⟨_, rfl⟩
  obtain ⟨L2, h2⟩ : ∃ L2, L2 = ((lens p).map fun (k : Nat) => (k : Int)).map D.int := ⟨_, rfl⟩
  obtain ⟨L3, h3⟩ : ∃ L3, L3 = ((sortI ((lens p).map fun (k : Nat) => (k : Int))).reverse).map D.int := ⟨_, rfl⟩
  rw [← h1] at q1 k1
  rw [← h2] at k1 q2
  rw [← h3] at q2 ⊢
  simp [m_type_of, N_type_of, q1, k1, q2]
theorem cycle_type_eq {p : Pm d} {st : Store} (hd : d ≤ 900) : S_cycle_type A [tp p] st = .ok (typeD p) st := by
  have c := check_perm_ok (A := A) (p := p) (st := st) (by omega)
  have q := type_of_eq (A := A) (p := p) (st := st) hd
  rw [S_cycle_type_eq]
  refine gc_ok [] (runF_rt ?_) (wf_lf _ lf_typeD)
  simp [m_cycle_type, N_cycle_type, c, q]
theorem law_type_eq {p : Pm d} {st : Store} (hd : d ≤ 900) : S_law_type A [tp p] st = .ok (typeD p) st := by
  have q1 := law_cycles_eq (A := A) (p := p) (st := st) hd
  have hcl := cycs_le p
  have k1 : compS (gN 1) mYes e_law_type_0 [1] ((cycs p).map lD) [some (tp p), none] st [] = .ok (((lens p).map fun (k : Nat) => (k : Int)).map D.int) st := by
    rw [compS_mapL (f := fun c => D.int (c.length : Int))]
    · simp [lens]
    · intro c _
      exact ⟨_, rfl, rfl, by simp [e_law_type_0, lD]⟩
    · exact small (by simp; omega)
  have q2 : fSorted [.lst (((lens p).map fun (k : Nat) => (k : Int)).map D.int)] st = .ok ((sortI ((lens p).map fun (k : Nat) => (k : Int))).map D.int) st := x_onInts
  rw [typeD_eq]
  rw [S_law_type_eq]
  refine gc_ok [] (runF_rt ?_) (wf_lf _ (by simp [List.all_map]))
  obtain ⟨L1, h1⟩ : ∃ L1, L1 = (cycs p).map lD := ⟨_, rfl⟩
  obtain ⟨L2, h2⟩ : ∃ L2, L2 = ((lens p).map fun (k : Nat) => (k : Int)).map D.int := ⟨_, rfl⟩
  rw [← h1] at q1 k1
  rw [← h2] at k1 q2
  simp [m_law_type, N_law_type, q1, k1, q2, List.map_reverse, Fx.listOf]
end K25

set_option Elab.async false
set_option linter.all false
set_option maxRecDepth 100000
set_option maxHeartbeats 4000000
namespace K25
open PySem L2 Fx
variable {A : Nat → Addr} {d : Nat} {ps : List (Pm d)}
theorem parts_bd : ∀ (l : List Nat) (t : List Nat × List (List Nat)), (∀ x ∈ l, x < d) → t.1.Nodup → (∀ x ∈ t.1, x < d) → (∀ c ∈ t.2, c.length ≤ d) → (∀ c ∈ (l.foldl (out1 ps) t).2, c.length ≤ d) ∧ (l.foldl (out1 ps) t).2.length ≤ t.2.length + l.length
  | [], t, _, _, _, h => ⟨h, by simp⟩
  | x :: l, t, hl, h1, h2, h3 => by
    rw [List.foldl_cons]
    by_cases c : x ∈ t.1
    · rw [show out1 ps t x = t by rw [out1, if_pos c]]
      obtain ⟨a, b⟩ := parts_bd l t (fun y hy => hl y (List.mem_cons_of_mem _ hy)) h1 h2 h3
      exact ⟨a, by simp; omega⟩
    · have eo : out1 ps t x = ((bfs ps d 0 (t.1 ++ [x], [x])).1, t.2 ++ [(bfs ps d 0 (t.1 ++ [x], [x])).2]) := by rw [out1, if_neg c]
      have hx := hl x List.mem_cons_self
      have hv : Inv2 d (t.1 ++ [x], [x]) := ⟨nodup_snoc h1 c, fun z hz => by
        rcases List.mem_append.mp hz with hz | hz
        · exact h2 z hz
        · rw [List.mem_singleton] at hz; omega, by simp, fun z hz => List.mem_append_right _ hz⟩
      have hb := hv.bfs (ps := ps) d 0
      rw [eo]
      obtain ⟨a, b⟩ := parts_bd l ((bfs ps d 0 (t.1 ++ [x], [x])).1, t.2 ++ [(bfs ps d 0 (t.1 ++ [x], [x])).2]) (fun y hy => hl y (List.mem_cons_of_mem _ hy)) hb.nd hb.lt (fun c hc => by
        rcases List.mem_append.mp hc with hc | hc
        · exact h3 c hc
        · rw [List.mem_singleton] at hc; subst hc; exact hb.len2)
      refine ⟨a, ?_⟩
      simp at b ⊢
      omega
theorem parts_small : (∀ c ∈ parts ps, c.length ≤ d) ∧ (parts ps).length ≤ d := by
  have h := parts_bd (ps := ps) (List.range d) ([], []) (fun x hx => List.mem_range.mp hx) .nil (by simp) (by simp)
  refine ⟨h.1, ?_⟩
  have := h.2
  simp at this
  exact this
theorem system_parts_eq {st : Store} (h : Sys ps) : S_system_parts A [sysD ps] st = .ok (.tup ((parts ps).map partD)) st := by
  have q1 := check_system_ok (A := A) (st := st) h
  have q2 := found_parts_eq (A := A) (ps := ps) (st := st) (by have := h.few; omega)
  rw [S_system_parts_eq]
  refine gc_ok [] (runF_rt ?_) (wf_lf _ (by simp [List.all_map]))
  obtain ⟨L, hL⟩ : ∃ L, L = (parts ps).map partD := ⟨_, rfl⟩
  have z : szFits L.length = true := szFits_of (by rw [hL]; have := (parts_small (ps := ps)).2; have := h.few; simp; omega)
  rw [← hL] at q2 ⊢
  simp [m_system_parts, N_system_parts, q1, q2, z]
theorem plain_parts {st : Store} (hd : d ≤ 1000) : S_law_plain A [.tup ((parts ps).map partD)] st = .ok (.tup ((parts ps).map partD)) st := by
  have hs := parts_small (ps := ps)
  refine plain_tup (inner_tup (fun x hx => ?_) (by simp; omega) (by simp [List.all_map])) (by simp [List.all_map])
  obtain ⟨l, hl, rfl⟩ := List.mem_map.mp hx
  refine inner_wD (is := sortI (l.map fun (k : Nat) => (k : Int))) ?_
  rw [(sortI_perm _).length_eq]
  have := hs.1 l hl
  simp; omega
theorem fl_parts : Fl 2 (.tup ((parts ps).map partD)) := Fl.tup fun x hx => by
  obtain ⟨l, _, rfl⟩ := List.mem_map.mp hx
  exact Fl.tup fun y hy => by
    obtain ⟨n, _, rfl⟩ := List.mem_map.mp hy; exact Fl.int
theorem fl_types : Fl 2 (.tup (ps.map typeD)) := Fl.tup fun x hx => by
  obtain ⟨p, _, rfl⟩ := List.mem_map.mp hx
  exact Fl.tup fun y hy => by
    obtain ⟨n, _, rfl⟩ := List.mem_map.mp hy; exact Fl.int
theorem datum_of_eq {st : Store} (h : Sys ps) : S_datum_of A [sysD ps] st = .ok (.tup (ps.map typeD)) st := by
  have hd := h.few
  have hr := h.rank
  have q1 := check_system_ok (A := A) (st := st) h
  have c : compS (gN 1) mYes (e_datum_of_0 (S_cycle_type A)) [1] (ps.map tp) [some (sysD ps), none] st [] = .ok (ps.map typeD) st := by
    rw [compS_mapL (h := tp) (f := typeD)]
    · simp
    · intro p hp
      exact ⟨_, rfl, rfl, by simp [e_datum_of_0, cycle_type_eq (A := A) (p := p) (st := st) (by omega)]⟩
    · simpa using small (by omega)
  have zq : szFits (ps.map typeD).length = true := szFits_of (by simp; omega)
  have f1 := fIx1 (ps := ps) (st := st)
  have er : rD ps = .tup (ps.map tp) := rfl
  rw [er] at f1
  rw [S_datum_of_eq]
  refine gc_ok [] (runF_rt ?_) (wf_lf _ (by simp [List.all_map]))
  obtain ⟨XP, hXP⟩ : ∃ XP, XP = ps.map tp := ⟨_, rfl⟩
  obtain ⟨XQ, hXQ⟩ : ∃ XQ, XQ = ps.map typeD := ⟨_, rfl⟩
  rw [← hXP, ← hXQ] at c
  rw [← hXP] at f1
  rw [← hXQ] at zq ⊢
  simp [m_datum_of, N_datum_of, q1, f1, c, zq]
theorem plain_types {st : Store} (hd : d ≤ 900) (hl : ps.length ≤ 1000) : S_law_plain A [.tup (ps.map typeD)] st = .ok (.tup (ps.map typeD)) st := by
  refine plain_tup (inner_tup (fun x hx => ?_) (by simpa using hl) (by simp [List.all_map])) (by simp [List.all_map])
  obtain ⟨p, hp, rfl⟩ := List.mem_map.mp hx
  rw [typeD_eq]
  refine inner_wD (is := (sortI ((lens p).map fun (k : Nat) => (k : Int))).reverse) ?_
  rw [List.length_reverse, (sortI_perm _).length_eq, List.length_map]
  have := cycs_le p
  simp [lens]; omega
theorem plain_tp {p : Pm d} {st : Store} (h : d ≤ 1000) : S_law_plain A [tp p] st = .ok (tp p) st := plain_tup (inner_tp h) (lf_tp p)
theorem plain_least {st : Store} (hd0 : 0 < d) (hd : d ≤ 1000) (hl : ps.length ≤ 1000) : S_law_plain A [leastD ps] st = .ok (leastD ps) st := by
  obtain ⟨x, _, e⟩ := least_mem (ps := ps) hd0
  rw [e]; exact plain_sysD hd (by rw [numb, turn_len]; omega)
/-! ### words again and again -/
theorem wact_app (a b : List Int) : wact ps (a ++ b) = wact ps a * wact ps b := by
  rw [wact, List.foldl_append, wact_from]; rfl
def rep (n : Nat) (w : List Int) : List Int := (List.replicate n w).flatten
theorem rep_succ (n : Nat) (w : List Int) : rep (n + 1) w = rep n w ++ w := by
  rw [rep, List.replicate_succ', List.flatten_append]; simp [rep]
theorem rep_len (n : Nat) (w : List Int) : (rep n w).length = n * w.length := by simp [rep]
theorem rep_mem {n : Nat} {w : List Int} {i : Int} (h : i ∈ rep n w) : i ∈ w := by
  rw [rep, List.mem_flatten] at h
  obtain ⟨l, hl, hi⟩ := h
  rw [List.eq_of_mem_replicate hl] at hi
  exact hi
theorem rep_take (n : Nat) (w : List Int) : (rep (n + 1) w).take w.length = w := by
  rw [rep, List.replicate_succ, List.flatten_cons, List.take_left']; rfl
end K25

set_option Elab.async false
set_option linter.all false
set_option maxRecDepth 100000
set_option maxHeartbeats 4000000
namespace K25
open PySem L2 Fx
variable {A : Nat → Addr} {d : Nat} {ps : List (Pm d)}
theorem law_run (A : Nat → Addr) (sc : D) {s0 t0 : Int} (hstate : S_law_state A [sc] [] = .ok (.loc 0) [stt s0 t0]) (hs0 : 0 ≤ s0) : ∃ st', S_law A [sc] [] = .ok (.bl true) st' := by
  suffices h : RT (m_law (S_law_state A) (S_law_system A) (S_law_is_connected A) (S_law_plain A) (S_law_take A) (S_law_product A) (S_is_system A) (S_law_parts A) (S_datum_of A) (S_word_permutation A) (S_law_word A) (S_told_system A) (S_system_parts A) (S_law_type A) (S_law_numbered A) (S_law_leading A) (S_law_least A) (S_numbered_from A) (S_leading_words A) (S_least_system A) (S_law_walk A) [some sc, none, none, none, none, none, none, none, none, none, none, none, none, none, none] []) by
    obtain ⟨st', e⟩ := h
    rw [S_law_eq]
    have e2 : runF N_law (m_law (S_law_state A) (S_law_system A) (S_law_is_connected A) (S_law_plain A) (S_law_take A) (S_law_product A) (S_is_system A) (S_law_parts A) (S_datum_of A) (S_word_permutation A) (S_law_word A) (S_told_system A) (S_system_parts A) (S_law_type A) (S_law_numbered A) (S_law_leading A) (S_law_least A) (S_numbered_from A) (S_leading_words A) (S_least_system A) (S_law_walk A)) [sc] [] = .ok (.bl true) st' := runF_rt e
    exact ⟨[], gc_ok st' (by rw [e2]; rfl) (by simp [WfD])⟩
  unfold m_law
  refine RT_post (fun τ st => ∃ s t, τ = [some sc, some (.loc 0), none, none, none, none, none, none, none, none, none, none, none, none, none] ∧ st = [stt s t] ∧ 0 ≤ s) ⟨_, _, by first | (simp [hstate]; done) | (simp [hstate]; exact ⟨rfl, rfl⟩) | (simp [hstate]; rfl), s0, t0, rfl, rfl, hs0⟩ ?_
  rintro _ _ ⟨s, t, rfl, rfl, hs⟩
  -- d, k
  refine RT_post (fun τ st => ∃ (s t : Int) (d k : Nat), τ = [some sc, some (.loc 0), some (.int (d : Int)), some (.int (k : Int)), none, none, none, none, none, none, none, none, none, none, none] ∧ st = [stt s t] ∧ 0 ≤ s ∧ 20 ≤ d ∧ d ≤ 24 ∧ 8 ≤ k ∧ k ≤ 12) ?_ ?_
  · obtain ⟨v, s1, t1, q1, hv, hs1⟩ := take_nat (A := A) (s := s) (t := t) (n := 5) (r := []) hs (by omega) (by omega)
    obtain ⟨u, s2, t2, q2, hu, hs2⟩ := take_nat (A := A) (s := s1) (t := t1) (n := 5) (r := []) hs1 (by omega) (by omega)
    have e5 : ((5 : Nat) : Int) = 5 := rfl
    rw [e5] at q1 q2
    have ed : (20 : Int) + (v : Int) = ((20 + v : Nat) : Int) := by omega
    have ek : (8 : Int) + (u : Int) = ((8 + u : Nat) : Int) := by omega
    obtain ⟨DD, hDD⟩ : ∃ K : Int, K = ((20 + v : Nat) : Int) := ⟨_, rfl⟩
    obtain ⟨KK, hKK⟩ : ∃ K : Int, K = ((8 + u : Nat) : Int) := ⟨_, rfl⟩
    rw [← hDD] at ed
    rw [← hKK] at ek
    refine ⟨[some sc, some (.loc 0), some (.int DD), some (.int KK), none, none, none, none, none, none, none, none, none, none, none], [stt s2 t2], ?_, s2, t2, 20 + v, 8 + u, by rw [hDD, hKK], rfl, hs2, by omega, by omega, by omega, by omega⟩
    simp [q1, q2, ed, ek]
  rintro _ _ ⟨s, t, d, k, rfl, rfl, hs, hd1, hd2, hk1, hk2⟩
  -- the system
  refine RT_post (fun τ st => ∃ (s t : Int) (ps : List (Pm d)), τ = [some sc, some (.loc 0), some (.int (d : Int)), some (.int (k : Int)), some (sysD ps), none, none, none, none, none, none, none, none, none, none] ∧ st = [stt s t] ∧ 0 ≤ s ∧ ps.length = k) ?_ ?_
  · obtain ⟨ps, s2, t2, q2, hs2, hl⟩ := law_system_eq (A := A) (d := d) (s := s) (t := t) (k := k) hs (by omega) (by omega) hk2
    exact ⟨_, _, by first | (simp [q2]; done) | (simp [q2]; exact ⟨rfl, rfl⟩) | (simp [q2]; rfl), s2, t2, ps, rfl, rfl, hs2, hl⟩
  rintro _ _ ⟨s, t, ps, rfl, rfl, hs, hl⟩
  have hS : Sys ps := ⟨by omega, by omega⟩
  have z : w62 (d : Int) = true := w62_of (by omega) (by omega)
  -- parts
  refine RT_post (fun τ st => τ = [some sc, some (.loc 0), some (.int (d : Int)), some (.int (k : Int)), some (sysD ps), none, none, none, none, none, none, none, none, none, none] ∧ st = [stt s t]) ⟨_, _, by
    have q1 := is_system_ok (A := A) (st := [stt s t]) hS
    have q2 := system_parts_eq (A := A) (st := [stt s t]) hS
    have q3 := plain_parts (A := A) (ps := ps) (st := [stt s t]) (by omega)
    have q4 := law_parts_eq (A := A) (ps := ps) (st := [stt s t]) (by omega)
    have q5 := fNe_self (st := [stt s t]) (fl_parts (ps := ps))
    obtain ⟨L, hL⟩ : ∃ L, L = D.tup ((parts ps).map partD) := ⟨_, rfl⟩
    rw [← hL] at q2 q3 q4 q5
    simp [q1, q2, q3, q4, q5, fIsNot, fIs], rfl, rfl⟩ ?_
  rintro _ _ ⟨rfl, rfl⟩
  -- the datum
  refine RT_post (fun τ st => τ = [some sc, some (.loc 0), some (.int (d : Int)), some (.int (k : Int)), some (sysD ps), none, none, none, none, none, none, none, none, none, none] ∧ st = [stt s t]) ⟨_, _, by
    have q2 := datum_of_eq (A := A) (st := [stt s t]) hS
    have q3 := plain_types (A := A) (ps := ps) (st := [stt s t]) (by omega) (by omega)
    have q5 := fNe_self (st := [stt s t]) (fl_types (ps := ps))
    have c : compS (gN 14) mYes (e_law_3 (S_law_type A)) [14] (ps.map tp) [some sc, some (.loc 0), some (.int (d : Int)), some (.int (k : Int)), some (sysD ps), none, none, none, none, none, none, none, none, none, none] [stt s t] [] = .ok (ps.map typeD) [stt s t] := by
      rw [compS_mapL (h := tp) (f := typeD)]
      · simp
      · intro p hp
        exact ⟨_, rfl, rfl, by simp [e_law_3, law_type_eq (A := A) (p := p) (st := [stt s t]) (by omega)]⟩
      · simpa using small (by omega)
    have zq : szFits (ps.map typeD).length = true := szFits_of (by simp; omega)
    have f1 := fIx1 (ps := ps) (st := [stt s t])
    have er : rD ps = .tup (ps.map tp) := rfl
    rw [er] at f1
    obtain ⟨XP, hXP⟩ : ∃ XP, XP = ps.map tp := ⟨_, rfl⟩
    obtain ⟨XQ, hXQ⟩ : ∃ XQ, XQ = ps.map typeD := ⟨_, rfl⟩
    rw [← hXP, ← hXQ] at c
    rw [← hXP] at f1
    rw [← hXQ] at zq q2 q3 q5
    simp [q2, q3, f1, c, zq, q5], rfl, rfl⟩ ?_
  rintro _ _ ⟨rfl, rfl⟩
  -- connected ones
  refine RT_post (fun τ st => ∃ (s t : Int) (e5 : Option D), τ = [some sc, some (.loc 0), some (.int (d : Int)), some (.int (k : Int)), some (sysD ps), e5, none, none, none, none, none, none, none, none, none] ∧ st = [stt s t] ∧ 0 ≤ s) ?_ ?_
  · have qc := law_is_connected_eq (A := A) (ps := ps) (st := [stt s t]) (by omega)
    cases hb : connB ps with
    | false =>
      rw [hb] at qc
      exact ⟨_, _, by simp [qc], s, t, none, rfl, rfl, hs⟩
    | true =>
      rw [hb] at qc
      have hc : (parts ps).length = 1 := by simpa [connB] using hb
      obtain ⟨x, s1, t1, q1, hx, hs1⟩ := take_nat (A := A) (s := s) (t := t) (n := d) (r := []) hs (by omega) (by omega)
      obtain ⟨v, s2, t2, q2, hv, hs2⟩ := take_nat (A := A) (s := s1) (t := t1) (n := 4) (r := []) hs1 (by omega) (by omega)
      have e4 : ((4 : Nat) : Int) = 4 := rfl
      rw [e4] at q2
      have a1 := numbered_from_eq (A := A) (st := [stt s1 t1]) hS hc hx
      have a2 := plain_sysD (A := A) (ps := numb ps x) (st := [stt s1 t1]) (by omega) (by rw [numb, turn_len]; omega)
      have a3 := law_numbered_eq (A := A) (st := [stt s1 t1]) (by omega) (by omega) hc hx
      have a4 := ne_sysD (ps := numb ps x) (st := [stt s1 t1])
      have b1 := leading_words_eq (A := A) (st := [stt s1 t1]) hS hc hx
      have b2 := plain_leadD (A := A) (F := lead (stp ps) (ltrs ps.length) d x) (st := [stt s1 t1]) (d := d) (by omega) (fun y hy => by have := lead_short hc hx hy; omega)
      have b3 := law_leading_eq (A := A) (st := [stt s1 t1]) (by omega) (by omega) hc hx
      have b4 := fNe_self (st := [stt s1 t1]) (fl_leadD (F := lead (stp ps) (ltrs ps.length) d x) (d := d))
      have c1 := least_system_eq (A := A) (st := [stt s2 t2]) (by omega) hS hc
      have c2 := plain_least (A := A) (ps := ps) (st := [stt s2 t2]) (by omega) (by omega) (by omega)
      have c3 := law_least_eq (A := A) (st := [stt s2 t2]) (by omega) (by omega) (by omega) hc
      have c4 : fNe (leastD ps) (leastD ps) [stt s2 t2] = .ok (.bl false) [stt s2 t2] := by
        obtain ⟨y, _, e⟩ := least_mem (ps := ps) (show 0 < d by omega)
        rw [e]; exact ne_sysD
      obtain ⟨NB, hNB⟩ : ∃ NB, NB = sysD (numb ps x) := ⟨_, rfl⟩
      obtain ⟨LB, hLB⟩ : ∃ LB, LB = leadD (lead (stp ps) (ltrs ps.length) d x) d := ⟨_, rfl⟩
      obtain ⟨MB, hMB⟩ : ∃ MB, MB = leastD ps := ⟨_, rfl⟩
      rw [← hNB] at a1 a2 a3 a4
      rw [← hLB] at b1 b2 b3 b4
      rw [← hMB] at c1 c2 c3 c4
      simp only [nD] at a1 a3 b1 b3
      refine ⟨[some sc, some (.loc 0), some (.int (d : Int)), some (.int (k : Int)), some (sysD ps), some (.int (x : Int)), none, none, none, none, none, none, none, none, none], [stt s2 t2], ?_, s2, t2, some (.int (x : Int)), rfl, rfl, hs2⟩
      by_cases cv : v = 0
      · subst cv
        simp [qc, q1, a1, a2, a3, a4, b1, b2, b3, b4, q2, c1, c2, c3, c4]
      · have cv' : ¬ (v : Int) = 0 := by omega
        simp [qc, q1, a1, a2, a3, a4, b1, b2, b3, b4, q2, cv, cv']
  clear hs
  rintro _ _ ⟨s, t, e5, rfl, rfl, hs⟩
  -- the word
  refine RT_post (fun τ st => ∃ (s t : Int) (w : List Int), τ = [some sc, some (.loc 0), some (.int (d : Int)), some (.int (k : Int)), some (sysD ps), e5, some (wD (rep 80 w)), none, none, none, none, none, none, none, none] ∧ st = [stt s t] ∧ 0 ≤ s ∧ w.length = 25 ∧ ∀ i ∈ w, 1 ≤ i ∧ i ≤ (k : Int)) ?_ ?_
  · obtain ⟨st', acc, e, s', t', w, q1, q2, q3, q4, q5⟩ := compS_ind (g := gN 10) (t := mYes) (m := e_law_2 (S_law_take A)) (vs := [10]) (τ := [some sc, some (.loc 0), some (.int (d : Int)), some (.int (k : Int)), some (sysD ps), e5, none, none, none, none, none, none, none, none, none])
      (P := fun ds st acc => ∃ (s t : Int) (w : List Int), st = [stt s t] ∧ 0 ≤ s ∧ acc = w.map D.int ∧ w.length + ds.length = 25 ∧ ∀ i ∈ w, 1 ≤ i ∧ i ≤ (k : Int))
      (fun y ys st acc ⟨s, t, w, q1, q2, q3, q4, q5⟩ => by
        subst q1 q3
        obtain ⟨v, s1, t1, a1, hv, hs1⟩ := take_nat (A := A) (s := s) (t := t) (n := k) (r := []) q2 (by omega) (by omega)
        simp only [List.length_cons] at q4
        refine ⟨_, rfl, .inl ⟨_, .int (1 + (v : Int)), [stt s1 t1], rfl, by simp [e_law_2, a1], small1000 (by simp; omega), s1, t1, w ++ [1 + (v : Int)], rfl, hs1, by simp, by simp; omega, fun i hi => ?_⟩⟩
        rcases List.mem_append.mp hi with hi | hi
        · exact q5 i hi
        · rw [List.mem_singleton] at hi; omega)
      (rangeD 0 25) [stt s t] [] ⟨s, t, [], rfl, hs, rfl, by simp, by simp⟩
    subst q1 q3
    simp at q4
    have m1 := x_mulGT (a := w.map D.int) (k := 80) (st := [stt s' t']) (by omega) (by omega) (by rw [List.length_map, q4]; decide)
    have eW : D.tup (List.replicate (80 : Int).toNat (w.map D.int)).flatten = wD (rep 80 w) := by
      rw [wD, rep, List.map_flatten, List.map_replicate]; rfl
    rw [eW] at m1
    obtain ⟨WW, hWW⟩ : ∃ WW, WW = wD (rep 80 w) := ⟨_, rfl⟩
    rw [← hWW] at m1
    have z25 : w62 25 = true := w62_of (by omega) (by omega)
    have zs : szFits (w.map D.int).length = true := szFits_of (by simp; omega)
    refine ⟨[some sc, some (.loc 0), some (.int (d : Int)), some (.int (k : Int)), some (sysD ps), e5, some WW, none, none, none, none, none, none, none, none], [stt s' t'], ?_, s', t', w, by rw [hWW], rfl, q2, q4, q5⟩
    obtain ⟨XW, hXW⟩ : ∃ XW, XW = w.map D.int := ⟨_, rfl⟩
    rw [← hXW] at e m1 zs
    simp [z25, e, zs, m1]
  clear hs
  rintro _ _ ⟨s, t, w, rfl, rfl, hs, hwl, hwi⟩
  have hlet : ∀ i ∈ w, 1 ≤ i.natAbs ∧ i.natAbs ≤ ps.length := fun i hi => by have := hwi i hi; omega
  have hWd : Wd ps.length (rep 80 w) := ⟨by rw [rep_len]; omega, fun i hi => hlet i (rep_mem hi)⟩
  obtain ⟨WW, hWW⟩ : ∃ WW, WW = wD (rep 80 w) := ⟨_, rfl⟩
  rw [← hWW]
  have zr : rgFits 0 (d : Int) = true := rgFits_of (by omega) (by omega) (by omega) (by omega)
  have hone : D.tup (rangeD 0 (d : Int)) = tp (Pm.one : Pm d) := lD_one.symm
  -- step
  refine RT_post (fun τ st => τ = [some sc, some (.loc 0), some (.int (d : Int)), some (.int (k : Int)), some (sysD ps), e5, some WW, some (tp (Pm.one : Pm d)), none, none, none, none, none, none, none] ∧ st = [stt s t]) ⟨_, _, by
    rw [← hone]
    obtain ⟨RS, hRS⟩ : ∃ RS, RS = rangeD 0 (d : Int) := ⟨_, rfl⟩
    simp [zr, hRS.symm], rfl, rfl⟩ ?_
  rintro _ _ ⟨rfl, rfl⟩
  refine RT_post (fun τ st => ∃ e8, τ = [some sc, some (.loc 0), some (.int (d : Int)), some (.int (k : Int)), some (sysD ps), e5, some WW, some (tp (wact ps w)), e8, none, none, none, none, none, none] ∧ st = [stt s t]) ?_ ?_
  · obtain ⟨τ', st', e, c, js, e8, q1, q2, q3, q4⟩ := forS_ind (g := gN 8) (b := B_law_2 A)
      (P := fun ds τ st' => ∃ (c : Pm d) (js : List Int) (e8 : Option D), τ = [some sc, some (.loc 0), some (.int (d : Int)), some (.int (k : Int)), some (sysD ps), e5, some WW, some (tp c), e8, none, none, none, none, none, none] ∧ st' = [stt s t] ∧ (ds = js.map D.int ∧ ∀ i ∈ js, i ∈ w) ∧ c * wact ps js = wact ps w)
      (fun y ys τ st' ⟨c, js, e8, q1, q2, ⟨q3, q3'⟩, q4⟩ => by
        subst q1 q2
        cases js with
        | nil => simp at q3
        | cons j js =>
          simp only [List.map_cons, List.cons.injEq] at q3
          obtain ⟨rfl, rfl⟩ := q3
          have hj := hwi j (q3' j List.mem_cons_self)
          have hjn : (j - 1).toNat < ps.length := by omega
          have ea : act ps j = ps[(j - 1).toNat] := by
            rw [act, if_pos (by omega), show j.natAbs - 1 = (j - 1).toNat by omega, List.getD_eq_getElem?_getD, List.getElem?_eq_getElem hjn]; rfl
          have ix : ∀ s, fIx (rD ps) (.int (j - 1)) s = .ok (tp (act ps j)) s := fun s => by
            have : (j - 1) = (((j - 1).toNat : Nat) : Int) := by omega
            rw [this, rD, x_ixT, atI_map (List.getElem?_eq_getElem hjn), ea]
          have pr := product_eq (A := A) (p := c) (q := act ps j) (st := [stt s t]) (by omega)
          refine ⟨_, rfl, _, [stt s t], .inl ?_, c * act ps j, js, some (.int j), rfl, rfl, ⟨rfl, fun i hi => q3' i (List.mem_cons_of_mem _ hi)⟩, by rw [Pm.assoc, ← wact_cons]; exact q4⟩
          obtain ⟨TC, hTC⟩ : ∃ TC, TC = tp c := ⟨_, rfl⟩
          obtain ⟨TA, hTA⟩ : ∃ TA, TA = tp (act ps j) := ⟨_, rfl⟩
          obtain ⟨TR, hTR⟩ : ∃ TR, TR = tp (c * act ps j) := ⟨_, rfl⟩
          rw [← hTC, ← hTA, ← hTR] at pr
          rw [← hTA] at ix
          rw [← hTC, ← hTR]
          simp [b_law_2, fIx1, ix, pr])
      (w.map D.int) [some sc, some (.loc 0), some (.int (d : Int)), some (.int (k : Int)), some (sysD ps), e5, some WW, some (tp (Pm.one : Pm d)), none, none, none, none, none, none, none] [stt s t] ⟨Pm.one, w, none, rfl, rfl, ⟨rfl, fun _ h => h⟩, Pm.one_mul _⟩
    have hjs : js = [] := by cases js with
      | nil => rfl
      | cons a b => simp at q3
    subst hjs q1 q2
    have hcw : c = wact ps w := by rw [← q4]; exact (Pm.mul_one c).symm
    subst hcw
    refine ⟨_, _, ?_, e8, rfl, rfl⟩
    have cut : ∀ s, fSl WW none (some 25) s = .ok (.tup (w.map D.int)) s := fun s => by
      rw [hWW, wD, x_slT]
      have : cutD ((rep 80 w).map D.int) none (some ((25 : Nat) : Int)) = ((rep 80 w).map D.int).take 25 := cut_hi (by simp [rep_len]; omega)
      rw [show ((25 : Nat) : Int) = 25 from rfl] at this
      rw [this, ← List.map_take, show (25 : Nat) = w.length from hwl.symm, show (80 : Nat) = 79 + 1 from rfl, rep_take]
    obtain ⟨XW, hXW⟩ : ∃ XW, XW = w.map D.int := ⟨_, rfl⟩
    rw [← hXW] at e cut
    simp [cut, e]
  rintro _ _ ⟨e8, rfl, rfl⟩
  -- due
  refine RT_post (fun τ st => τ = [some sc, some (.loc 0), some (.int (d : Int)), some (.int (k : Int)), some (sysD ps), e5, some WW, some (tp (wact ps w)), e8, some (tp (Pm.one : Pm d)), none, none, none, none, none] ∧ st = [stt s t]) ⟨_, _, by
    rw [← hone]
    obtain ⟨RS, hRS⟩ : ∃ RS, RS = rangeD 0 (d : Int) := ⟨_, rfl⟩
    simp [zr, hRS.symm], rfl, rfl⟩ ?_
  rintro _ _ ⟨rfl, rfl⟩
  refine RT_post (fun τ st => ∃ e10, τ = [some sc, some (.loc 0), some (.int (d : Int)), some (.int (k : Int)), some (sysD ps), e5, some WW, some (tp (wact ps w)), e8, some (tp (wact ps (rep 80 w))), e10, none, none, none, none] ∧ st = [stt s t]) ?_ ?_
  · obtain ⟨τ', st', e, m, e10, q1, q2, q3, q4⟩ := forS_ind (g := gN 10) (b := B_law_1 A)
      (P := fun ds τ st' => ∃ (m : Nat) (e10 : Option D), τ = [some sc, some (.loc 0), some (.int (d : Int)), some (.int (k : Int)), some (sysD ps), e5, some WW, some (tp (wact ps w)), e8, some (tp (wact ps (rep m w))), e10, none, none, none, none] ∧ st' = [stt s t] ∧ m + ds.length = 80 ∧ True)
      (fun y ys τ st' ⟨m, e10, q1, q2, q3, q4⟩ => by
        subst q1 q2
        simp only [List.length_cons] at q3
        have pr := product_eq (A := A) (p := wact ps (rep m w)) (q := wact ps w) (st := [stt s t]) (by omega)
        rw [← wact_app, ← rep_succ] at pr
        refine ⟨_, rfl, _, [stt s t], .inl ?_, m + 1, some y, rfl, rfl, by omega, trivial⟩
        obtain ⟨TC, hTC⟩ : ∃ TC, TC = tp (wact ps (rep m w)) := ⟨_, rfl⟩
        obtain ⟨TA, hTA⟩ : ∃ TA, TA = tp (wact ps w) := ⟨_, rfl⟩
        obtain ⟨TR, hTR⟩ : ∃ TR, TR = tp (wact ps (rep (m + 1) w)) := ⟨_, rfl⟩
        rw [← hTC, ← hTA, ← hTR] at pr
        rw [← hTC, ← hTA, ← hTR]
        simp [b_law_1, pr])
      (rangeD 0 80) [some sc, some (.loc 0), some (.int (d : Int)), some (.int (k : Int)), some (sysD ps), e5, some WW, some (tp (wact ps w)), e8, some (tp (Pm.one : Pm d)), none, none, none, none, none] [stt s t] ⟨0, none, rfl, rfl, by simp, trivial⟩
    subst q1 q2
    have hm : m = 80 := by simpa using q3
    subst hm
    refine ⟨_, _, ?_, e10, rfl, rfl⟩
    have z80 : w62 80 = true := w62_of (by omega) (by omega)
    obtain ⟨RS, hRS⟩ : ∃ RS, RS = rangeD 0 80 := ⟨_, rfl⟩
    rw [← hRS] at e
    simp [z80, hRS.symm, e]
  rintro _ _ ⟨e10, rfl, rfl⟩
  -- the word's permutation
  refine RT_post (fun τ st => τ = [some sc, some (.loc 0), some (.int (d : Int)), some (.int (k : Int)), some (sysD ps), e5, some WW, some (tp (wact ps w)), e8, some (tp (wact ps (rep 80 w))), e10, none, none, none, none] ∧ st = [stt s t]) ⟨_, _, by
    have q1 := word_perm_ok (A := A) (st := [stt s t]) hS hWd
    rw [← hWW] at q1
    have q2 := plain_tp (A := A) (p := wact ps (rep 80 w)) (st := [stt s t]) (by omega)
    have q3 := ne_tp (p := wact ps (rep 80 w)) (st := [stt s t])
    obtain ⟨TR, hTR⟩ : ∃ TR, TR = tp (wact ps (rep 80 w)) := ⟨_, rfl⟩
    rw [← hTR] at q1 q2 q3 ⊢
    simp [q1, q2, q3], rfl, rfl⟩ ?_
  rintro _ _ ⟨rfl, rfl⟩
  -- twelve words
  obtain ⟨TS, hTS⟩ : ∃ TS, TS = tp (wact ps w) := ⟨_, rfl⟩
  obtain ⟨TR, hTR⟩ : ∃ TR, TR = tp (wact ps (rep 80 w)) := ⟨_, rfl⟩
  rw [← hTS, ← hTR]
  refine RT_post (fun τ st => ∃ (s t : Int) (ws : List (List Int)), τ = [some sc, some (.loc 0), some (.int (d : Int)), some (.int (k : Int)), some (sysD ps), e5, some WW, some TS, e8, some TR, e10, some (.tup (ws.map wD)), none, none, none] ∧ st = [stt s t] ∧ ws.length = 12 ∧ ∀ v ∈ ws, Wd ps.length v) ?_ ?_
  · obtain ⟨st', acc, e, s', t', ws, q1, q2, q3, q4, q5⟩ := compS_ind (g := gN 10) (t := mYes) (m := e_law_1 (S_law_word A)) (vs := [10]) (τ := [some sc, some (.loc 0), some (.int (d : Int)), some (.int (k : Int)), some (sysD ps), e5, some WW, some TS, e8, some TR, e10, none, none, none, none])
      (P := fun ds st acc => ∃ (s t : Int) (ws : List (List Int)), st = [stt s t] ∧ 0 ≤ s ∧ acc = ws.map wD ∧ ws.length + ds.length = 12 ∧ ∀ v ∈ ws, Wd ps.length v)
      (fun y ys st acc ⟨s, t, ws, q1, q2, q3, q4, q5⟩ => by
        subst q1 q3
        obtain ⟨is, s1, t1, a1, hs1, hi1, hi2⟩ := law_word_eq (A := A) (s := s) (t := t) (k := k) (m := 12) q2 (by omega) (by omega)
        have e12 : ((12 : Nat) : Int) = 12 := rfl
        rw [e12] at a1
        simp only [List.length_cons] at q4
        refine ⟨_, rfl, .inl ⟨_, wD is, [stt s1 t1], rfl, by simp [e_law_1, a1], small1000 (by simp; omega), s1, t1, ws ++ [is], rfl, hs1, by simp, by simp; omega, fun v hv => ?_⟩⟩
        rcases List.mem_append.mp hv with hv | hv
        · exact q5 v hv
        · rw [List.mem_singleton] at hv
          subst hv
          exact ⟨by omega, fun i hi => by have := hi2 i hi; omega⟩)
      (rangeD 0 12) [stt s t] [] ⟨s, t, [], rfl, hs, rfl, by simp, by simp⟩
    subst q1 q3
    simp at q4
    have z12 : w62 12 = true := w62_of (by omega) (by omega)
    have zs : szFits (ws.map wD).length = true := szFits_of (by simp; omega)
    refine ⟨[some sc, some (.loc 0), some (.int (d : Int)), some (.int (k : Int)), some (sysD ps), e5, some WW, some TS, e8, some TR, e10, some (.tup (ws.map wD)), none, none, none], [stt s' t'], ?_, s', t', ws, rfl, rfl, q4, q5⟩
    obtain ⟨XW, hXW⟩ : ∃ XW, XW = ws.map wD := ⟨_, rfl⟩
    rw [← hXW] at e zs ⊢
    simp [z12, e, zs]
  clear hs
  rintro _ _ ⟨s, t, ws, rfl, rfl, hwl2, hws⟩
  -- their permutations
  refine RT_post (fun τ st => τ = [some sc, some (.loc 0), some (.int (d : Int)), some (.int (k : Int)), some (sysD ps), e5, some WW, some TS, e8, some TR, e10, some (.tup (ws.map wD)), some (.loc 1), none, none] ∧ st = [stt s t, .lst []]) ⟨_, _, by simp, rfl, rfl⟩ ?_
  rintro _ _ ⟨rfl, rfl⟩
  refine RT_post (fun τ st => ∃ e13, τ = [some sc, some (.loc 0), some (.int (d : Int)), some (.int (k : Int)), some (sysD ps), e5, some WW, some TS, e8, some TR, e10, some (.tup (ws.map wD)), some (.loc 1), e13, none] ∧ st = [stt s t, .lst ((ws.map (wact ps)).map tp)]) ?_ ?_
  · obtain ⟨AL, hAL⟩ : ∃ AL, AL = D.tup (ws.map wD) := ⟨_, rfl⟩
    rw [← hAL]
    obtain ⟨τ', st', e, us, js, e13, q1, q2, q3, q4, q5⟩ := forS_ind (g := gN 13) (b := B_law_0 A)
      (P := fun ds τ st' => ∃ (us js : List (List Int)) (e13 : Option D), τ = [some sc, some (.loc 0), some (.int (d : Int)), some (.int (k : Int)), some (sysD ps), e5, some WW, some TS, e8, some TR, e10, some AL, some (.loc 1), e13, none] ∧ st' = [stt s t, .lst ((us.map (wact ps)).map tp)] ∧ ds = js.map wD ∧ us ++ js = ws ∧ True)
      (fun y ys τ st' ⟨us, js, e13, q1, q2, q3, q4, q5⟩ => by
        subst q1 q2
        cases js with
        | nil => simp at q3
        | cons j js =>
          simp only [List.map_cons, List.cons.injEq] at q3
          obtain ⟨rfl, rfl⟩ := q3
          have hj : j ∈ ws := by rw [← q4]; simp
          have hul : us.length ≤ 12 := by rw [← hwl2, ← q4]; simp
          obtain ⟨S1, hS1⟩ : ∃ S1 : Store, S1 = [stt s t, .lst ((us.map (wact ps)).map tp)] := ⟨_, rfl⟩
          have c := comp_f (p := wact ps j) (m := e_law_0 (S_law_walk A)) (g := gN 5) (vs := [5]) (τ := [some sc, some (.loc 0), some (.int (d : Int)), some (.int (k : Int)), some (sysD ps), e5, some WW, some TS, e8, some TR, e10, some AL, some (.loc 1), some (wD j), none]) (st := S1) (by omega) (fun x hx => ⟨_, rfl, by
            have q := law_walk_eq (A := A) (ps := ps) (is := j) (st := S1) (x := x) (by omega) (hws j hj).let_ hx
            simp only [nD] at q ⊢
            simp [e_law_0, q]⟩)
          rw [← range_nD] at c
          have ha : fApp (.loc 1) [tp (wact ps j)] S1 = .ok .non [stt s t, .lst (((us ++ [j]).map (wact ps)).map tp)] := by
            rw [x_app (xs := (us.map (wact ps)).map tp) (by rw [hS1]; rfl) (small1000 (by simp; omega)), hS1]
            simp
          have hlo : Fx.listOf (.loc 1) S1 = some ((us.map (wact ps)).map tp) := by rw [hS1]; rfl
          refine ⟨_, rfl, _, [stt s t, .lst (((us ++ [j]).map (wact ps)).map tp)], .inl ?_, us ++ [j], js, some (wD j), rfl, rfl, rfl, by rw [← q4]; simp, trivial⟩
          have et : tp (wact ps j) = .tup ((wact ps j).list.map nD) := rfl
          rw [et] at ha
          have zs : szFits ((wact ps j).list.map nD).length = true := szFits_of (by simp [Pm.len]; omega)
          obtain ⟨XL, hXL⟩ : ∃ XL, XL = (wact ps j).list.map nD := ⟨_, rfl⟩
          rw [← hXL] at c ha zs
          rw [← hS1]
          simp [b_law_0, z, c, zs, ha, hlo])
      (ws.map wD) [some sc, some (.loc 0), some (.int (d : Int)), some (.int (k : Int)), some (sysD ps), e5, some WW, some TS, e8, some TR, e10, some AL, some (.loc 1), none, none] [stt s t, .lst []] ⟨[], ws, none, rfl, rfl, rfl, rfl, trivial⟩
    have hjs : js = [] := by cases js with
      | nil => rfl
      | cons a b => simp at q3
    subst hjs q1 q2
    rw [List.append_nil] at q4
    subst q4
    refine ⟨_, _, ?_, e13, rfl, rfl⟩
    obtain ⟨XW, hXW⟩ : ∃ XW, XW = us.map wD := ⟨_, rfl⟩
    rw [← hXW] at e hAL
    rw [hAL] at e ⊢
    simp [e]
  rintro _ _ ⟨e13, rfl, rfl⟩
  -- the end
  obtain ⟨AL, hAL⟩ : ∃ AL, AL = D.tup (ws.map wD) := ⟨_, rfl⟩
  obtain ⟨S1, hS1⟩ : ∃ S1 : Store, S1 = [stt s t, .lst ((ws.map (wact ps)).map tp)] := ⟨_, rfl⟩
  have q1 := told_system_ok (A := A) (ps := ps) (ws := ws) (st := S1) hS hws (by omega)
  have q2 := plain_sysD (A := A) (ps := ws.map (wact ps)) (st := S1) (by omega) (by simp; omega)
  have q3 := fEq_self (st := S1) (fl_sysD (ps := ws.map (wact ps)))
  have q4 := x_tupleLoc (st := S1) (i := 1) (xs := (ws.map (wact ps)).map tp) (by rw [hS1]; rfl)
  have e1 : sysD (ws.map (wact ps)) = .tup [.int (d : Int), .tup ((ws.map (wact ps)).map tp)] := rfl
  rw [← hAL] at q1 ⊢
  rw [e1] at q1 q2 q3
  obtain ⟨XL, hXL⟩ : ∃ XL, XL = (ws.map (wact ps)).map tp := ⟨_, rfl⟩
  rw [← hXL] at q1 q2 q3 q4 hS1
  rw [← hXL, ← hS1]
  exact ⟨S1, by simp [q1, q2, q3, q4]⟩
theorem law_true (A : Nat → Addr) (ns : List Int) (h : ns.length ≤ 63) : ∃ st', S_law A [.lst (ns.map D.int)] [] = .ok (.bl true) st' := by
  obtain ⟨s, t, e, hs⟩ := state_eq (A := A) ns
  exact law_run A _ e hs
end K25

open PySem PySem.W PyProof.Rows
set_option maxRecDepth 100000 in
set_option maxHeartbeats 0 in
theorem PySem.Challenge.cw_branchsheets_k25_systems_to_their_bounds_holds : PySem.Challenge.rw_branchsheets_k25_systems_to_their_bounds.Holds := by
  w_on; o_law; k_head; (case hw => w_witness2)
  k_fill
  refine Fx.walkF (l := PySem.Challenge.rw_branchsheets_k25_systems_to_their_bounds) (k := 8) rfl rfl ⟨rfl, by decide, by decide⟩ (fun w h Y => PySem.W.kIn_of Y) ?F
  case F =>
    intro w mg fa h KX G hmg
    refine' K25.all_mk KX G hmg ?a40 ?l40 ?c40 ?k40 ?a41 ?l41 ?c41 ?k41 ?a42 ?l42 ?c42 ?k42 ?a43 ?l43 ?c43 ?k43 ?a44 ?l44 ?c44 ?k44 ?a45 ?l45 ?c45 ?k45 ?a48 ?l48 ?c48 ?k48 ?a38 ?l38 ?c38 ?k38 ?a39 ?l39 ?c39 ?k39 ?a56 ?l56 ?c56 ?k56 ?a4 ?l4 ?c4 ?k4 ?a6 ?l6 ?c6 ?k6 ?a17 ?l17 ?c17 ?k17 ?a18 ?l18 ?c18 ?k18 ?a7 ?l7 ?c7 ?k7 ?a10 ?l10 ?c10 ?k10 ?a11 ?l11 ?c11 ?k11 ?a12 ?l12 ?c12 ?k12 ?a30 ?l30 ?c30 ?k30 ?a24 ?l24 ?c24 ?k24 ?a25 ?l25 ?c25 ?k25 ?a8 ?l8 ?c8 ?k8 ?a9 ?l9 ?c9 ?k9 ?a26 ?l26 ?c26 ?k26 ?a27 ?l27 ?c27 ?k27 ?a28 ?l28 ?c28 ?k28 ?a52 ?l52 ?c52 ?k52 ?a57 ?l57 ?c57 ?k57 ?a36 ?l36 ?c36 ?k36 ?a21 ?l21 ?c21 ?k21 ?a29 ?l29 ?c29 ?k29 ?a46 ?l46 ?c46 ?k46 ?a47 ?l47 ?c47 ?k47 ?a49 ?l49 ?c49 ?k49 ?a50 ?l50 ?c50 ?k50 ?a51 ?l51 ?c51 ?k51 ?a53 ?l53 ?c53 ?k53 ?a54 ?l54 ?c54 ?k54 ?a55 ?l55 ?c55 ?k55 ?a22 ?l22 ?c22 ?k22 ?a23 ?l23 ?c23 ?k23 ?a19 ?l19 ?c19 ?k19 ?a20 ?l20 ?c20 ?k20 ?a31 ?l31 ?c31 ?k31 ?a32 ?l32 ?c32 ?k32 ?a34 ?l34 ?c34 ?k34 ?a35 ?l35 ?c35 ?k35 ?a33 ?l33 ?c33 ?k33 ?a58 ?l58 ?c58 ?k58 ?a59 ?l59 ?c59 ?k59 ?z_abs ?z_all ?z_bool ?z_enumerate ?z_int ?z_isinstance ?z_len ?z_list ?z_min ?z_range ?z_sorted ?z_str ?z_tuple ?c_MOST_LETTERS ?c_MOST_RANK ?c_MOST_SHEETS ?a2 ?q2 ?k2 ?b2 ?t2 K25.law_true
    (case a40 => k_is); (case l40 => k_is); (case c40 => k_is); (case k40 => k_is); (case a41 => k_is); (case l41 => k_is)
    (case c41 => k_is); (case k41 => k_is); (case a42 => k_is); (case l42 => k_is); (case c42 => k_is); (case k42 => k_is)
    (case a43 => k_is); (case l43 => k_is); (case c43 => k_is); (case k43 => k_is); (case a44 => k_is); (case l44 => k_is)
    (case c44 => k_is); (case k44 => k_is); (case a45 => k_is); (case l45 => k_is); (case c45 => k_is); (case k45 => k_is)
    (case a48 => k_is); (case l48 => k_is); (case c48 => k_is); (case k48 => k_is); (case a38 => k_is); (case l38 => k_is)
    (case c38 => k_is); (case k38 => k_is); (case a39 => k_is); (case l39 => k_is); (case c39 => k_is); (case k39 => k_is)
    (case a56 => k_is); (case l56 => k_is); (case c56 => k_is); (case k56 => k_is); (case a4 => k_is); (case l4 => k_is)
    (case c4 => k_is); (case k4 => k_is); (case a6 => k_is); (case l6 => k_is); (case c6 => k_is); (case k6 => k_is)
    (case a17 => k_is); (case l17 => k_is); (case c17 => k_is); (case k17 => k_is); (case a18 => k_is); (case l18 => k_is)
    (case c18 => k_is); (case k18 => k_is); (case a7 => k_is); (case l7 => k_is); (case c7 => k_is); (case k7 => k_is)
    (case a10 => k_is); (case l10 => k_is); (case c10 => k_is); (case k10 => k_is); (case a11 => k_is); (case l11 => k_is)
    (case c11 => k_is); (case k11 => k_is); (case a12 => k_is); (case l12 => k_is); (case c12 => k_is); (case k12 => k_is)
    (case a30 => k_is); (case l30 => k_is); (case c30 => k_is); (case k30 => k_is); (case a24 => k_is); (case l24 => k_is)
    (case c24 => k_is); (case k24 => k_is); (case a25 => k_is); (case l25 => k_is); (case c25 => k_is); (case k25 => k_is)
    (case a8 => k_is); (case l8 => k_is); (case c8 => k_is); (case k8 => k_is); (case a9 => k_is); (case l9 => k_is)
    (case c9 => k_is); (case k9 => k_is); (case a26 => k_is); (case l26 => k_is); (case c26 => k_is); (case k26 => k_is)
    (case a27 => k_is); (case l27 => k_is); (case c27 => k_is); (case k27 => k_is); (case a28 => k_is); (case l28 => k_is)
    (case c28 => k_is); (case k28 => k_is); (case a52 => k_is); (case l52 => k_is); (case c52 => k_is); (case k52 => k_is)
    (case a57 => k_is); (case l57 => k_is); (case c57 => k_is); (case k57 => k_is); (case a36 => k_is); (case l36 => k_is)
    (case c36 => k_is); (case k36 => k_is); (case a21 => k_is); (case l21 => k_is); (case c21 => k_is); (case k21 => k_is)
    (case a29 => k_is); (case l29 => k_is); (case c29 => k_is); (case k29 => k_is); (case a46 => k_is); (case l46 => k_is)
    (case c46 => k_is); (case k46 => k_is); (case a47 => k_is); (case l47 => k_is); (case c47 => k_is); (case k47 => k_is)
    (case a49 => k_is); (case l49 => k_is); (case c49 => k_is); (case k49 => k_is); (case a50 => k_is); (case l50 => k_is)
    (case c50 => k_is); (case k50 => k_is); (case a51 => k_is); (case l51 => k_is); (case c51 => k_is); (case k51 => k_is)
    (case a53 => k_is); (case l53 => k_is); (case c53 => k_is); (case k53 => k_is); (case a54 => k_is); (case l54 => k_is)
    (case c54 => k_is); (case k54 => k_is); (case a55 => k_is); (case l55 => k_is); (case c55 => k_is); (case k55 => k_is)
    (case a22 => k_is); (case l22 => k_is); (case c22 => k_is); (case k22 => k_is); (case a23 => k_is); (case l23 => k_is)
    (case c23 => k_is); (case k23 => k_is); (case a19 => k_is); (case l19 => k_is); (case c19 => k_is); (case k19 => k_is)
    (case a20 => k_is); (case l20 => k_is); (case c20 => k_is); (case k20 => k_is); (case a31 => k_is); (case l31 => k_is)
    (case c31 => k_is); (case k31 => k_is); (case a32 => k_is); (case l32 => k_is); (case c32 => k_is); (case k32 => k_is)
    (case a34 => k_is); (case l34 => k_is); (case c34 => k_is); (case k34 => k_is); (case a35 => k_is); (case l35 => k_is)
    (case c35 => k_is); (case k35 => k_is); (case a33 => k_is); (case l33 => k_is); (case c33 => k_is); (case k33 => k_is)
    (case a58 => k_is); (case l58 => k_is); (case c58 => k_is); (case k58 => k_is); (case a59 => k_is); (case l59 => k_is)
    (case c59 => k_is); (case k59 => k_is); (case z_abs => k_is); (case z_all => k_is); (case z_bool => k_is); (case z_enumerate => k_is)
    (case z_int => k_is); (case z_isinstance => k_is); (case z_len => k_is); (case z_list => k_is); (case z_min => k_is); (case z_range => k_is)
    (case z_sorted => k_is); (case z_str => k_is); (case z_tuple => k_is); (case c_MOST_LETTERS => k_is); (case c_MOST_RANK => k_is); (case c_MOST_SHEETS => k_is)
    (case a2 => k_is); (case q2 => k_exc); (case k2 => k_is); (case b2 => k_is); (case t2 => k_is)

