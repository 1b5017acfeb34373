import PyProof.Rows.All
import Wide.All
import OpenK.AllK
import Wide.FinOn
import HandS.ForMost
import HandS.ForExc
import HandS.TryMany
import HandS.ExcField
import HandS.CallLocal
import HandS.Conv
import HandS.Flow
import HandS.Style
import HandS.IsInst
import HandS.Wide
import HandS.SortInts
import HandS.SortKw
import HandS.TupAny
import HandS.TupMul
import HandS.Rev
import HandS.Zip
import HandS.RevTup
import HandS.WordsExc
import HandS.CallSlots
import HandS.SetFor
import KE.GoesMore
import PySem.Challenge.RW_branchsheets_k21_whole_words
set_option Elab.async false
set_option linter.all false
set_option maxRecDepth 100000
set_option maxHeartbeats 4000000
/-! Fx: programs as functions of plain data. -/
namespace Fx
open PySem L2

/-! the sizes, as words that nothing unfolds -/
theorem ex_sz : ∃ f : Nat → Bool, ∀ n, f n = true ↔ n ≤ sizeLine := ⟨fun n => decide (n ≤ sizeLine), fun n => decide_eq_true_iff⟩
noncomputable def szFits : Nat → Bool := ex_sz.choose
theorem szFits_iff {n : Nat} : szFits n = true ↔ n ≤ sizeLine := ex_sz.choose_spec n
theorem szFits_lt {n : Nat} : szFits (n + 1) = true ↔ n < sizeLine := szFits_iff
theorem ex_w62 : ∃ f : Int → Bool, ∀ j, f j = true ↔ -4611686018427387904 ≤ j ∧ j < 4611686018427387904 := ⟨fun j => decide (-4611686018427387904 ≤ j ∧ j < 4611686018427387904), fun n => decide_eq_true_iff⟩
noncomputable def w62 : Int → Bool := ex_w62.choose
theorem w62_iff {j : Int} : w62 j = true ↔ -(2 ^ 62) ≤ j ∧ j < 2 ^ 62 := by
  rw [show w62 j = true ↔ _ from ex_w62.choose_spec j]; omega
theorem ex_w63 : ∃ f : Int → Bool, ∀ j, f j = true ↔ -9223372036854775808 ≤ j ∧ j < 9223372036854775808 := ⟨fun j => decide (-9223372036854775808 ≤ j ∧ j < 9223372036854775808), fun n => decide_eq_true_iff⟩
noncomputable def w63 : Int → Bool := ex_w63.choose
theorem w63_iff {j : Int} : w63 j = true ↔ -(2 ^ 63) ≤ j ∧ j < 2 ^ 63 := by
  rw [show w63 j = true ↔ _ from ex_w63.choose_spec j]; omega

/-- plain data: what a Python value is, the mutable objects by their number in the store -/
inductive D where
  | non | bl (b : Bool) | int (i : Int) | str (x : Str) | ty (n : String) | fn (a : Addr)
  | tup (xs : List D) | lst (xs : List D) | loc (n : Nat)

/-- a mutable object -/
inductive O where
  | lst (xs : List D)
  | dk (kvs : List (Key × D))
  | dt (kvs : List (List Key × D))

abbrev Store := List O
abbrev En := List (Option D)

/-- where the store's objects lie; what is hidden (made, not yet told) -/
structure Mp where
  at' : Nat → Addr
  hid : Addr → Prop
def Mp.hide (ρ : Mp) (a : Addr) : Mp := ⟨ρ.at', fun b => ρ.hid b ∨ b = a⟩
/-- a list that is read only: not one of the store's -/
def LstAt (K : PySem.W.Frag) (H : Hp) (ρ : Mp) (n : Nat) (a : Addr) (xs : List V) : Prop :=
  (Rd H a (.lst xs) ∧ (∀ i, i < n → ρ.at' i ≠ a) ∧ ¬ ρ.hid a) ∨
    ∃ (o : Obj) (its : Array Value) (m : Nat), K.lookup a = some o ∧ o.cls = .type "list" ∧ o.dict = none ∧ o.data = .seq its m ∧ its.size ≤ sizeLine ∧ Vals xs its.toList
theorem LstAt.sq {K : PySem.W.Frag} {H : Hp} {ρ : Mp} {n : Nat} {a : Addr} {xs : List V} (h : LstAt K H ρ n a xs) : SqL K H a xs := h.imp (·.1) id

mutual
def RelD (K : PySem.W.Frag) (ρ : Mp) (n : Nat) (H : Hp) : D → V → Prop
  | .non, v => v = .non
  | .bl b, v => v = .bl b
  | .int i, v => v = .int i
  | .str x, v => v = .str x
  | .ty t, v => v = .ty t
  | .fn a, v => v = .ref a
  | .tup xs, v => ∃ a vs, v = .ref a ∧ H a = some (.tup vs) ∧ RelDs K ρ n H xs vs
  | .lst xs, v => ∃ a vs, v = .ref a ∧ LstAt K H ρ n a vs ∧ RelDs K ρ n H xs vs
  | .loc i, v => v = .ref (ρ.at' i) ∧ i < n
def RelDs (K : PySem.W.Frag) (ρ : Mp) (n : Nat) (H : Hp) : List D → List V → Prop
  | [], vs => vs = []
  | d :: ds, vs => ∃ v r, vs = v :: r ∧ RelD K ρ n H d v ∧ RelDs K ρ n H ds r
end

def ObjR (K : PySem.W.Frag) (ρ : Mp) (n : Nat) (H : Hp) : O → Addr → Prop
  | .lst ds, a => ∃ vs, H a = some (.lst vs) ∧ RelDs K ρ n H ds vs
  | .dk kvs, a => ∃ ws : List (Key × V), H a = some (.dK ws) ∧ Paired (fun p q => p.1 = q.1 ∧ RelD K ρ n H p.2 q.2) kvs ws
  | .dt kvs, a => ∃ ws : List (List Key × V), H a = some (.dT ws) ∧ Paired (fun p q => p.1 = q.1 ∧ RelD K ρ n H p.2 q.2) kvs ws

/-- the store lies in the heap -/
def isMut : HO → Bool
  | .lst _ => true
  | .dK _ => true
  | .dT _ => true
  | _ => false
structure R (K : PySem.W.Frag) (ρ : Mp) (st : Store) (H : Hp) : Prop where
  obj : ∀ i o, st[i]? = some o → ObjR K ρ st.length H o (ρ.at' i)
  inj : ∀ i j, i < st.length → j < st.length → ρ.at' i = ρ.at' j → i = j
  hid : ∀ a, ρ.hid a → ∃ u, H a = some u ∧ isMut u = true
  sep : ∀ i, i < st.length → ¬ ρ.hid (ρ.at' i)

/-- what a step may do to the heap -/
structure Ext (ρ : Mp) (n : Nat) (H : Hp) (ρ' : Mp) (n' : Nat) (H' : Hp) : Prop where
  le : n ≤ n'
  old : ∀ i, i < n → ρ'.at' i = ρ.at' i
  new : ∀ i, n ≤ i → i < n' → H (ρ'.at' i) = none
  keep : ∀ a o, H a = some o → (∀ i, i < n → ρ.at' i ≠ a) → H' a = some o
  hid : ρ'.hid = ρ.hid

section
variable {K : PySem.W.Frag} {ρ ρ' ρ'' : Mp} {st st' st'' : Store} {H H' H'' : Hp} {n n' n'' : Nat}

theorem R.at (r : R K ρ st H) {i : Nat} (h : i < st.length) : ∃ u, H (ρ.at' i) = some u ∧ isMut u = true := by
  have e : st[i]? = some st[i] := List.getElem?_eq_getElem h
  have q := r.obj i _ e
  revert q
  cases st[i] with
  | lst ds => rintro ⟨vs, h, _⟩; exact ⟨_, h, rfl⟩
  | dk ds => rintro ⟨vs, h, _⟩; exact ⟨_, h, rfl⟩
  | dt ds => rintro ⟨vs, h, _⟩; exact ⟨_, h, rfl⟩
theorem R.ne (r : R K ρ st H) {a : Addr} {u : HO} (h : H a = some u) (m : isMut u = false) : ∀ i, i < st.length → ρ.at' i ≠ a := fun i hi e => by
  obtain ⟨w, hw, mw⟩ := r.at hi
  rw [e, h] at hw; cases hw; rw [m] at mw; cases mw
theorem R.ne_none (r : R K ρ st H) {a : Addr} (h : H a = none) : ∀ i, i < st.length → ρ.at' i ≠ a := fun i hi e => by
  obtain ⟨w, hw, mw⟩ := r.at hi
  rw [e, h] at hw; cases hw
theorem R.nh_none (r : R K ρ st H) {a : Addr} (h : H a = none) : ¬ ρ.hid a := fun q => by
  obtain ⟨u, hu, _⟩ := r.hid a q
  rw [h] at hu; cases hu

theorem Ext.refl : Ext ρ n H ρ n H := ⟨Nat.le_refl _, fun _ _ => rfl, fun _ h1 h2 => absurd (Nat.lt_of_le_of_lt h1 h2) (Nat.lt_irrefl _), fun _ _ h _ => h, rfl⟩
/-- what is free behind a step was free ahead of it -/
theorem Ext.none_of (a : Ext ρ st.length H ρ' st'.length H') (m : R K ρ' st' H') {x : Addr} (q : H' x = none) : H x = none := by
  cases e : H x with
  | none => rfl
  | some u =>
    by_cases hm : ∃ j, j < st.length ∧ ρ.at' j = x
    · obtain ⟨j, hj, ej⟩ := hm
      obtain ⟨w, hw, _⟩ := m.at (Nat.lt_of_lt_of_le hj a.le)
      rw [a.old j hj, ej, q] at hw; cases hw
    · have := a.keep _ u e fun j hj z => hm ⟨j, hj, z⟩
      rw [q] at this; cases this
theorem Ext.trans (a : Ext ρ st.length H ρ' st'.length H') (r : R K ρ st H) (m : R K ρ' st' H') (b : Ext ρ' st'.length H' ρ'' n'' H'') : Ext ρ st.length H ρ'' n'' H'' := by
  refine ⟨Nat.le_trans a.le b.le, fun i hi => (b.old i (Nat.lt_of_lt_of_le hi a.le)).trans (a.old i hi), fun i h1 h2 => ?_, fun x o h1 h2 => ?_, b.hid.trans a.hid⟩
  · by_cases hi : i < st'.length
    · rw [b.old i hi]; exact a.new i h1 hi
    · exact a.none_of m (b.new i (Nat.le_of_not_lt hi) h2)
  · refine b.keep x o (a.keep x o h1 h2) fun i hi e => ?_
    by_cases hl : i < st.length
    · rw [a.old i hl] at e; exact h2 i hl e
    · have := a.new i (Nat.le_of_not_lt hl) hi
      rw [e, h1] at this; cases this

/-- .. more may be hidden, of what is new -/
structure ExtW (ρ : Mp) (n : Nat) (H : Hp) (ρ' : Mp) (n' : Nat) (H' : Hp) : Prop where
  le : n ≤ n'
  old : ∀ i, i < n → ρ'.at' i = ρ.at' i
  new : ∀ i, n ≤ i → i < n' → H (ρ'.at' i) = none
  keep : ∀ a o, H a = some o → (∀ i, i < n → ρ.at' i ≠ a) → H' a = some o
  hid : ∀ a, ρ'.hid a → ρ.hid a ∨ H a = none
theorem Ext.w (e : Ext ρ n H ρ' n' H') : ExtW ρ n H ρ' n' H' := ⟨e.le, e.old, e.new, e.keep, fun a h => .inl (by rw [← e.hid]; exact h)⟩
theorem ExtW.sqT (e : ExtW ρ st.length H ρ' n' H') (r : R K ρ st H) {a : Addr} {xs : List V} (h : SqT K H a xs) : SqT K H' a xs := by
  rcases h with (h | ⟨o, h⟩) | h
  · exact .inl (.inl (e.keep a _ h (r.ne h rfl)))
  · exact .inl (.inr ⟨o, e.keep a _ h (r.ne h rfl)⟩)
  · exact .inr h
theorem ExtW.lstAt (e : ExtW ρ n H ρ' n' H') {a : Addr} {xs : List V} (h : LstAt K H ρ n a xs) : LstAt K H' ρ' n' a xs := by
  rcases h with ⟨h, ni, nh⟩ | h
  · have nn : ∀ u, H a = some u → ∀ i, i < n' → ρ'.at' i ≠ a := fun u hu i hi z => by
      by_cases hl : i < n
      · rw [e.old i hl] at z; exact ni i hl z
      · have := e.new i (Nat.le_of_not_lt hl) hi
        rw [z, hu] at this; cases this
    have nh' : ∀ u, H a = some u → ¬ ρ'.hid a := fun u hu z => by
      rcases e.hid a z with q | q
      · exact nh q
      · rw [hu] at q; cases q
    rcases h with h | ⟨o, h⟩
    · exact .inl ⟨.inl (e.keep a _ h ni), nn _ h, nh' _ h⟩
    · exact .inl ⟨.inr ⟨o, e.keep a _ h ni⟩, nn _ h, nh' _ h⟩
  · exact .inr h
theorem Ext.sqT (e : Ext ρ st.length H ρ' n' H') (r : R K ρ st H) {a : Addr} {xs : List V} (h : SqT K H a xs) : SqT K H' a xs := e.w.sqT r h
theorem Ext.lstAt (e : Ext ρ n H ρ' n' H') {a : Addr} {xs : List V} (h : LstAt K H ρ n a xs) : LstAt K H' ρ' n' a xs := e.w.lstAt h

mutual
theorem RelD.monoW (e : ExtW ρ st.length H ρ' n' H') (r : R K ρ st H) : ∀ (d : D) {v : V}, RelD K ρ st.length H d v → RelD K ρ' n' H' d v
  | .non, v, h => by simpa only [RelD] using h
  | .bl b, v, h => by simpa only [RelD] using h
  | .int b, v, h => by simpa only [RelD] using h
  | .str b, v, h => by simpa only [RelD] using h
  | .ty b, v, h => by simpa only [RelD] using h
  | .fn b, v, h => by simpa only [RelD] using h
  | .tup xs, v, h => by
    simp only [RelD] at h ⊢
    obtain ⟨a, vs, rfl, s, q⟩ := h
    exact ⟨a, vs, rfl, e.keep a _ s (r.ne s rfl), RelDs.monoW e r xs q⟩
  | .lst xs, v, h => by
    simp only [RelD] at h ⊢
    obtain ⟨a, vs, rfl, s, q⟩ := h
    exact ⟨a, vs, rfl, e.lstAt s, RelDs.monoW e r xs q⟩
  | .loc i, v, h => by
    simp only [RelD] at h ⊢
    rw [e.old i h.2]
    exact ⟨h.1, Nat.lt_of_lt_of_le h.2 e.le⟩
theorem RelDs.monoW (e : ExtW ρ st.length H ρ' n' H') (r : R K ρ st H) : ∀ (ds : List D) {vs : List V}, RelDs K ρ st.length H ds vs → RelDs K ρ' n' H' ds vs
  | [], vs, h => by simpa only [RelDs] using h
  | d :: ds, vs, h => by
    simp only [RelDs] at h ⊢
    obtain ⟨v, w, rfl, h1, h2⟩ := h
    exact ⟨v, w, rfl, RelD.monoW e r d h1, RelDs.monoW e r ds h2⟩
end
theorem RelD.mono {v : V} {d : D} (h : RelD K ρ st.length H d v) (e : Ext ρ st.length H ρ' n' H') (r : R K ρ st H) : RelD K ρ' n' H' d v := RelD.monoW e.w r d h
theorem RelDs.mono (e : Ext ρ st.length H ρ' n' H') (r : R K ρ st H) (ds : List D) {vs : List V} (h : RelDs K ρ st.length H ds vs) : RelDs K ρ' n' H' ds vs := RelDs.monoW e.w r ds h

theorem RelDs.len : ∀ {ds : List D} {vs : List V}, RelDs K ρ n H ds vs → vs.length = ds.length
  | [], vs, h => by simp only [RelDs] at h; subst h; rfl
  | d :: ds, vs, h => by
    simp only [RelDs] at h
    obtain ⟨v, w, rfl, _, h2⟩ := h
    simp [RelDs.len h2]
theorem RelDs.nil : RelDs K ρ n H [] [] := by simp [RelDs]
theorem RelDs.cons {d : D} {ds : List D} {v : V} {vs : List V} (h : RelD K ρ n H d v) (t : RelDs K ρ n H ds vs) : RelDs K ρ n H (d :: ds) (v :: vs) := by
  simp only [RelDs]; exact ⟨v, vs, rfl, h, t⟩
theorem RelDs.cases {d : D} {ds : List D} {vs : List V} (h : RelDs K ρ n H (d :: ds) vs) : ∃ v r, vs = v :: r ∧ RelD K ρ n H d v ∧ RelDs K ρ n H ds r := by
  simpa only [RelDs] using h
theorem RelDs.nil_eq {vs : List V} (h : RelDs K ρ n H [] vs) : vs = [] := by simpa only [RelDs] using h
theorem RelDs.get : ∀ {ds : List D} {vs : List V} {i : Nat} {d : D}, RelDs K ρ n H ds vs → ds[i]? = some d → ∃ v, vs[i]? = some v ∧ RelD K ρ n H d v
  | [], _, _, _, _, h => by simp at h
  | d :: ds, vs, 0, d', h, e => by
    obtain ⟨v, w, rfl, h1, h2⟩ := h.cases
    simp at e; subst e; exact ⟨v, rfl, h1⟩
  | d :: ds, vs, i + 1, d', h, e => by
    obtain ⟨v, w, rfl, h1, h2⟩ := h.cases
    obtain ⟨u, q1, q2⟩ := RelDs.get (i := i) h2 (by simpa using e)
    exact ⟨u, by simpa using q1, q2⟩
theorem RelDs.get' : ∀ {ds : List D} {vs : List V} {i : Nat} {v : V}, RelDs K ρ n H ds vs → vs[i]? = some v → ∃ d, ds[i]? = some d ∧ RelD K ρ n H d v
  | [], vs, i, v, h, e => by rw [h.nil_eq] at e; simp at e
  | d :: ds, vs, 0, v', h, e => by
    obtain ⟨v, w, rfl, h1, h2⟩ := h.cases
    simp at e; subst e; exact ⟨d, rfl, h1⟩
  | d :: ds, vs, i + 1, v', h, e => by
    obtain ⟨v, w, rfl, h1, h2⟩ := h.cases
    obtain ⟨u, q1, q2⟩ := RelDs.get' (i := i) h2 (by simpa using e)
    exact ⟨u, by simpa using q1, q2⟩
theorem RelDs.append : ∀ {xs ys : List D} {us ws : List V}, RelDs K ρ n H xs us → RelDs K ρ n H ys ws → RelDs K ρ n H (xs ++ ys) (us ++ ws)
  | [], _, us, _, h, t => by rw [h.nil_eq]; exact t
  | d :: ds, _, us, _, h, t => by
    obtain ⟨v, w, rfl, h1, h2⟩ := h.cases
    exact .cons h1 (RelDs.append h2 t)
theorem RelDs.take : ∀ {xs : List D} {us : List V} (k : Nat), RelDs K ρ n H xs us → RelDs K ρ n H (xs.take k) (us.take k)
  | [], us, k, h => by rw [h.nil_eq]; simp [RelDs]
  | d :: ds, us, 0, h => by simp [RelDs]
  | d :: ds, us, k + 1, h => by
    obtain ⟨v, w, rfl, h1, h2⟩ := h.cases
    exact .cons h1 (RelDs.take k h2)
theorem RelDs.drop : ∀ {xs : List D} {us : List V} (k : Nat), RelDs K ρ n H xs us → RelDs K ρ n H (xs.drop k) (us.drop k)
  | [], us, k, h => by rw [h.nil_eq]; simp [RelDs]
  | d :: ds, us, 0, h => h
  | d :: ds, us, k + 1, h => by
    obtain ⟨v, w, rfl, h1, h2⟩ := h.cases
    exact RelDs.drop k h2
theorem RelDs.set {d : D} {v : V} (r : RelD K ρ n H d v) : ∀ {xs : List D} {us : List V} (k : Nat), RelDs K ρ n H xs us → RelDs K ρ n H (xs.set k d) (us.set k v)
  | [], us, k, h => by rw [h.nil_eq]; simp [RelDs]
  | d :: ds, us, 0, h => by
    obtain ⟨v, w, rfl, h1, h2⟩ := h.cases
    exact .cons r h2
  | d :: ds, us, k + 1, h => by
    obtain ⟨v, w, rfl, h1, h2⟩ := h.cases
    exact .cons h1 (RelDs.set r k h2)
theorem RelDs.eraseIdx : ∀ {xs : List D} {us : List V} (k : Nat), RelDs K ρ n H xs us → RelDs K ρ n H (xs.eraseIdx k) (us.eraseIdx k)
  | [], us, k, h => by rw [h.nil_eq]; simp [RelDs]
  | d :: ds, us, 0, h => by
    obtain ⟨v, w, rfl, h1, h2⟩ := h.cases
    exact h2
  | d :: ds, us, k + 1, h => by
    obtain ⟨v, w, rfl, h1, h2⟩ := h.cases
    exact .cons h1 (RelDs.eraseIdx k h2)
theorem RelDs.reverse : ∀ {xs : List D} {us : List V}, RelDs K ρ n H xs us → RelDs K ρ n H xs.reverse us.reverse
  | [], us, h => by rw [h.nil_eq]; simp [RelDs]
  | d :: ds, us, h => by
    obtain ⟨v, w, rfl, h1, h2⟩ := h.cases
    rw [List.reverse_cons, List.reverse_cons]
    exact (RelDs.reverse h2).append (.cons h1 .nil)
theorem RelDs.dropLast {xs : List D} {us : List V} (h : RelDs K ρ n H xs us) : RelDs K ρ n H xs.dropLast us.dropLast := by
  rw [List.dropLast_eq_take, List.dropLast_eq_take, h.len]; exact h.take _
theorem RelDs.replicate {d : D} {v : V} (r : RelD K ρ n H d v) : ∀ k : Nat, RelDs K ρ n H (List.replicate k d) (List.replicate k v)
  | 0 => by simp [RelDs]
  | k + 1 => by rw [List.replicate_succ, List.replicate_succ]; exact .cons r (RelDs.replicate r k)
theorem RelDs.repl {xs : List D} {us : List V} (r : RelDs K ρ n H xs us) : ∀ k : Nat, RelDs K ρ n H (List.replicate k xs).flatten (List.replicate k us).flatten
  | 0 => by simp [RelDs]
  | k + 1 => by rw [List.replicate_succ, List.replicate_succ, List.flatten_cons, List.flatten_cons]; exact r.append (RelDs.repl r k)
theorem RelDs.ints : ∀ {ns : List Int} {vs : List V}, RelDs K ρ n H (ns.map .int) vs → vs = ns.map V.int
  | [], vs, h => h.nil_eq
  | i :: r, vs, h => by
    obtain ⟨v, w, rfl, h1, h2⟩ := RelDs.cases (show RelDs K ρ n H (.int i :: r.map D.int) vs from h)
    simp only [RelD] at h1
    rw [h1, RelDs.ints h2]; rfl
theorem RelDs.ints' : ∀ {ns : List Int}, RelDs K ρ n H (ns.map .int) (ns.map V.int)
  | [] => .nil
  | i :: r => .cons (by simp [RelD]) (RelDs.ints' (ns := r))
theorem RelDs.bls : ∀ {ns : List Bool} {vs : List V}, RelDs K ρ n H (ns.map .bl) vs → vs = ns.map V.bl
  | [], vs, h => h.nil_eq
  | i :: r, vs, h => by
    obtain ⟨v, w, rfl, h1, h2⟩ := RelDs.cases (show RelDs K ρ n H (.bl i :: r.map D.bl) vs from h)
    simp only [RelD] at h1
    rw [h1, RelDs.bls h2]; rfl
theorem R.push_ext (r : R K ρ st H) {p : Addr} {u : HO} (hp : H p = none) : Ext ρ st.length H ρ st.length (upd H p u) :=
  ⟨Nat.le_refl _, fun _ _ => rfl, fun _ h1 h2 => absurd (Nat.lt_of_le_of_lt h1 h2) (Nat.lt_irrefl _), fun a o h _ => by rw [upd_ne (ne_of_none h hp)]; exact h, rfl⟩
theorem Paired.monoP {α β : Type} {F G : α → β → Prop} : ∀ {l₁ : List α} {l₂ : List β}, Paired F l₁ l₂ → (∀ a b, F a b → G a b) → Paired G l₁ l₂
  | _, _, .nil, _ => .nil
  | _, _, .cons r t, f => .cons (f _ _ r) (Paired.monoP t f)
theorem ObjR.mono (e : Ext ρ st.length H ρ' n' H') (r : R K ρ st H) {a : Addr} (ha : ∀ u, H a = some u → H' a = some u) : ∀ {o : O}, ObjR K ρ st.length H o a → ObjR K ρ' n' H' o a
  | .lst ds, ⟨vs, h, q⟩ => ⟨vs, ha _ h, RelDs.mono e r ds q⟩
  | .dk ds, ⟨vs, h, q⟩ => ⟨vs, ha _ h, Paired.monoP q fun p q z => ⟨z.1, RelD.mono z.2 e r⟩⟩
  | .dt ds, ⟨vs, h, q⟩ => ⟨vs, ha _ h, Paired.monoP q fun p q z => ⟨z.1, RelD.mono z.2 e r⟩⟩
/-- an untracked new object -/
theorem R.free (r : R K ρ st H) {p : Addr} {u : HO} (hp : H p = none) : R K ρ st (upd H p u) :=
  ⟨fun i o h => (r.obj i o h).mono (r.push_ext hp) r fun w hw => by rw [upd_ne (ne_of_none hw hp)]; exact hw, r.inj,
    fun a h => let ⟨w, hw, m⟩ := r.hid a h; ⟨w, by rw [upd_ne (ne_of_none hw hp)]; exact hw, m⟩, r.sep⟩
/-- a new object of the store -/
def put (ρ : Mp) (n : Nat) (p : Addr) : Mp := ⟨fun i => if i = n then p else ρ.at' i, ρ.hid⟩
theorem put_at {ρ : Mp} {n : Nat} {p : Addr} : (put ρ n p).at' n = p := if_pos rfl
theorem put_ne {ρ : Mp} {n i : Nat} {p : Addr} (h : i ≠ n) : (put ρ n p).at' i = ρ.at' i := if_neg h
theorem put_ext {p : Addr} {u : HO} (hp : H p = none) : Ext ρ n H (put ρ n p) (n + 1) (upd H p u) :=
  ⟨Nat.le_succ _, fun i hi => put_ne (Nat.ne_of_lt hi), fun i h1 h2 => by
    have : i = n := by omega
    rw [this, put_at]; exact hp, fun a o h _ => by rw [upd_ne (ne_of_none h hp)]; exact h, rfl⟩
theorem R.alloc (r : R K ρ st H) {p : Addr} {u : HO} {o : O} (hp : H p = none) (ho : ObjR K (put ρ st.length p) (st.length + 1) (upd H p u) o p) : R K (put ρ st.length p) (st ++ [o]) (upd H p u) := by
  refine ⟨fun i x h => ?_, fun i j hi hj e => ?_, fun a h => let ⟨w, hw, m⟩ := r.hid a h; ⟨w, by rw [upd_ne (ne_of_none hw hp)]; exact hw, m⟩, fun i hi => ?_⟩
  · rw [List.length_append, List.length_singleton]
    by_cases hi : i < st.length
    · rw [List.getElem?_append_left hi] at h
      rw [put_ne (Nat.ne_of_lt hi)]
      exact (r.obj i x h).mono (put_ext hp) r fun w hw => by rw [upd_ne (ne_of_none hw hp)]; exact hw
    · have hl : i = st.length := by
        have := (List.getElem?_eq_some_iff.mp h).1
        simp at this; omega
      subst hl
      simp at h; subst h
      rw [put_at]; exact ho
  · rw [List.length_append, List.length_singleton] at hi hj
    by_cases h1 : i = st.length
    · by_cases h2 : j = st.length
      · rw [h1, h2]
      · rw [h1, put_at, put_ne h2] at e
        exact absurd e.symm (r.ne_none hp j (by omega))
    · by_cases h2 : j = st.length
      · rw [h2, put_at, put_ne h1] at e
        exact absurd e (r.ne_none hp i (by omega))
      · rw [put_ne h1, put_ne h2] at e
        exact r.inj i j (by omega) (by omega) e
  · rw [List.length_append, List.length_singleton] at hi
    by_cases h1 : i = st.length
    · rw [h1, put_at]; exact r.nh_none hp
    · rw [put_ne h1]; exact r.sep i (by omega)
/-- an object of the store is written -/
theorem R.set_ext (r : R K ρ st H) {i : Nat} {u : HO} (hi : i < st.length) : Ext ρ st.length H ρ st.length (upd H (ρ.at' i) u) :=
  ⟨Nat.le_refl _, fun _ _ => rfl, fun _ h1 h2 => absurd (Nat.lt_of_le_of_lt h1 h2) (Nat.lt_irrefl _), fun a o h q => by rw [upd_ne (Ne.symm (q i hi))]; exact h, rfl⟩
theorem R.set (r : R K ρ st H) {i : Nat} {u : HO} {o : O} (hi : i < st.length) (ho : ObjR K ρ st.length (upd H (ρ.at' i) u) o (ρ.at' i)) : R K ρ (st.set i o) (upd H (ρ.at' i) u) := by
  refine ⟨fun j x h => ?_, fun a b ha hb e => r.inj a b (by simpa using ha) (by simpa using hb) e, fun a h => ?_, fun j hj => r.sep j (by simpa using hj)⟩
  · rw [List.length_set]
    by_cases hj : j = i
    · subst hj
      rw [List.getElem?_set_self hi] at h
      cases h; exact ho
    · rw [List.getElem?_set_ne (Ne.symm hj)] at h
      have hl : j < st.length := (List.getElem?_eq_some_iff.mp h).1
      exact (r.obj j x h).mono (r.set_ext hi) r fun w hw => by rw [upd_ne (fun z => hj (r.inj j i hl hi z))]; exact hw
  · obtain ⟨w, hw, m⟩ := r.hid a h
    refine ⟨w, ?_, m⟩
    have ne : a ≠ ρ.at' i := fun z => r.sep i hi (z ▸ h)
    rw [upd_ne ne]; exact hw

/-! ### a new list that is not told yet -/
theorem LstAt.hide {p : Addr} {u : HO} (hp : H p = none) {a : Addr} {xs : List V} (h : LstAt K H ρ n a xs) : LstAt K (upd H p u) (ρ.hide p) n a xs := by
  rcases h with ⟨h, ni, nh⟩ | h
  · rcases h with h | ⟨o, h⟩
    · have ne : a ≠ p := ne_of_none h hp
      exact .inl ⟨.inl (by rw [upd_ne ne]; exact h), ni, fun z => z.elim nh ne⟩
    · have ne : a ≠ p := ne_of_none h hp
      exact .inl ⟨.inr ⟨o, by rw [upd_ne ne]; exact h⟩, ni, fun z => z.elim nh ne⟩
  · exact .inr h
theorem SqT.hide {p : Addr} {u : HO} (hp : H p = none) {a : Addr} {xs : List V} (h : SqT K H a xs) : SqT K (upd H p u) a xs := by
  rcases h with (h | ⟨o, h⟩) | h
  · exact .inl (.inl (by rw [upd_ne (ne_of_none h hp)]; exact h))
  · exact .inl (.inr ⟨o, by rw [upd_ne (ne_of_none h hp)]; exact h⟩)
  · exact .inr h
mutual
theorem RelD.hide {p : Addr} {u : HO} (hp : H p = none) : ∀ (d : D) {v : V}, RelD K ρ n H d v → RelD K (ρ.hide p) n (upd H p u) d v
  | .non, v, h => by simpa only [RelD] using h
  | .bl b, v, h => by simpa only [RelD] using h
  | .int b, v, h => by simpa only [RelD] using h
  | .str b, v, h => by simpa only [RelD] using h
  | .ty b, v, h => by simpa only [RelD] using h
  | .fn b, v, h => by simpa only [RelD] using h
  | .tup xs, v, h => by
    simp only [RelD] at h ⊢
    obtain ⟨a, vs, rfl, s, q⟩ := h
    exact ⟨a, vs, rfl, by rw [upd_ne (ne_of_none s hp)]; exact s, RelDs.hide hp xs q⟩
  | .lst xs, v, h => by
    simp only [RelD] at h ⊢
    obtain ⟨a, vs, rfl, s, q⟩ := h
    exact ⟨a, vs, rfl, s.hide hp, RelDs.hide hp xs q⟩
  | .loc i, v, h => by simpa only [RelD, Mp.hide] using h
theorem RelDs.hide {p : Addr} {u : HO} (hp : H p = none) : ∀ (ds : List D) {vs : List V}, RelDs K ρ n H ds vs → RelDs K (ρ.hide p) n (upd H p u) ds vs
  | [], vs, h => by simpa only [RelDs] using h
  | d :: ds, vs, h => by
    simp only [RelDs] at h ⊢
    obtain ⟨v, w, rfl, h1, h2⟩ := h
    exact ⟨v, w, rfl, RelD.hide hp d h1, RelDs.hide hp ds h2⟩
end
mutual
theorem RelD.show' {p : Addr} : ∀ (d : D) {v : V}, RelD K (ρ.hide p) n H d v → RelD K ρ n H d v
  | .non, v, h => by simpa only [RelD] using h
  | .bl b, v, h => by simpa only [RelD] using h
  | .int b, v, h => by simpa only [RelD] using h
  | .str b, v, h => by simpa only [RelD] using h
  | .ty b, v, h => by simpa only [RelD] using h
  | .fn b, v, h => by simpa only [RelD] using h
  | .tup xs, v, h => by
    simp only [RelD] at h ⊢
    obtain ⟨a, vs, rfl, s, q⟩ := h
    exact ⟨a, vs, rfl, s, RelDs.show' xs q⟩
  | .lst xs, v, h => by
    simp only [RelD] at h ⊢
    obtain ⟨a, vs, rfl, s, q⟩ := h
    refine ⟨a, vs, rfl, ?_, RelDs.show' xs q⟩
    rcases s with ⟨h, ni, nh⟩ | h
    · exact .inl ⟨h, ni, fun z => nh (.inl z)⟩
    · exact .inr h
  | .loc i, v, h => by simpa only [RelD, Mp.hide] using h
theorem RelDs.show' {p : Addr} : ∀ (ds : List D) {vs : List V}, RelDs K (ρ.hide p) n H ds vs → RelDs K ρ n H ds vs
  | [], vs, h => by simpa only [RelDs] using h
  | d :: ds, vs, h => by
    simp only [RelDs] at h ⊢
    obtain ⟨v, w, rfl, h1, h2⟩ := h
    exact ⟨v, w, rfl, RelD.show' d h1, RelDs.show' ds h2⟩
end
theorem R.hide (r : R K ρ st H) {p : Addr} {u : HO} (hp : H p = none) (m : isMut u = true) : R K (ρ.hide p) st (upd H p u) := by
  refine ⟨fun i o h => ?_, r.inj, fun a h => ?_, fun i hi h => h.elim (r.sep i hi) (r.ne_none hp i hi)⟩
  · have q := r.obj i o h
    have k : ∀ w, H (ρ.at' i) = some w → upd H p u (ρ.at' i) = some w := fun w hw => by rw [upd_ne (ne_of_none hw hp)]; exact hw
    revert q
    cases o with
    | lst ds => rintro ⟨vs, h, q⟩; exact ⟨vs, k _ h, RelDs.hide hp ds q⟩
    | dk ds => rintro ⟨vs, h, q⟩; exact ⟨vs, k _ h, Paired.monoP q fun p q z => ⟨z.1, RelD.hide hp _ z.2⟩⟩
    | dt ds => rintro ⟨vs, h, q⟩; exact ⟨vs, k _ h, Paired.monoP q fun p q z => ⟨z.1, RelD.hide hp _ z.2⟩⟩
  · rcases h with h | rfl
    · obtain ⟨w, hw, m'⟩ := r.hid a h
      exact ⟨w, by rw [upd_ne (ne_of_none hw hp)]; exact hw, m'⟩
    · exact ⟨u, upd_same, m⟩
theorem R.show' {p : Addr} (r : R K (ρ.hide p) st H) : R K ρ st H := by
  refine ⟨fun i o h => ?_, r.inj, fun a h => r.hid a (.inl h), fun i hi h => r.sep i hi (.inl h)⟩
  have q := r.obj i o h
  revert q
  cases o with
  | lst ds => rintro ⟨vs, h, q⟩; exact ⟨vs, h, RelDs.show' ds q⟩
  | dk ds => rintro ⟨vs, h, q⟩; exact ⟨vs, h, Paired.monoP q fun p q z => ⟨z.1, RelD.show' _ z.2⟩⟩
  | dt ds => rintro ⟨vs, h, q⟩; exact ⟨vs, h, Paired.monoP q fun p q z => ⟨z.1, RelD.show' _ z.2⟩⟩
end
end Fx

set_option Elab.async false
set_option linter.all false
set_option maxRecDepth 100000
set_option maxHeartbeats 4000000
namespace Fx
open PySem L2

/-- an exception: its class, its own fields -/
structure Ex where
  cls : Addr
  fs : Option (List (Str × D))

/-- what an expression gives: nothing known, a value, an exception -/
inductive Rs (α : Type) where
  | no
  | ok (a : α) (st : Store)
  | er (x : Ex) (st : Store)

def Rs.bind {α β : Type} (r : Rs α) (k : α → Store → Rs β) : Rs β :=
  match r with
  | .no => .no
  | .ok a st => k a st
  | .er x st => .er x st
@[simp] theorem Rs.bind_no {α β : Type} (k : α → Store → Rs β) : (Rs.no : Rs α).bind k = .no := rfl
@[simp] theorem Rs.bind_ok {α β : Type} (a : α) (st : Store) (k : α → Store → Rs β) : (Rs.ok a st).bind k = k a st := rfl
@[simp] theorem Rs.bind_er {α β : Type} (x : Ex) (st : Store) (k : α → Store → Rs β) : (Rs.er x st : Rs α).bind k = .er x st := rfl
theorem Rs.bind_assoc {α β γ : Type} (r : Rs α) (k : α → Store → Rs β) (j : β → Store → Rs γ) : (r.bind k).bind j = r.bind fun a st => (k a st).bind j := by
  cases r <;> rfl

/-- what a statement does -/
inductive Rt where
  | no
  | nx (σ : En) (st : Store)
  | rt (d : D) (st : Store)
  | bk (σ : En) (st : Store)
  | ct (σ : En) (st : Store)
  | er (x : Ex) (σ : En) (st : Store)

abbrev SE := En → Store → Rs D
abbrev SB := En → Store → Rs Bool
abbrev SA := En → Store → Rs (List D)
abbrev SS := En → Store → Rt

def ExR (K : PySem.W.Frag) (ρ : Mp) (n : Nat) (H : Hp) (x : Ex) (cls : Value) (dd : Option Addr) : Prop :=
  cls = .ref x.cls ∧ match x.fs, dd with
    | none, none => True
    | some fs, some d => ∃ ws : List (Str × V), H d = some (.xd ws) ∧ Paired (fun p q => p.1 = q.1 ∧ RelD K ρ n H p.2 q.2) fs ws
    | _, _ => False

def EnvR (K : PySem.W.Frag) (ρ : Mp) (n : Nat) (H : Hp) (τ : En) (σ : St) : Prop :=
  τ.length = σ.length ∧ ∀ (i : Nat) (d : D), τ[i]? = some (some d) → ∃ v, σ[i]? = some (some v) ∧ RelD K ρ n H d v

abbrev Rl (α β : Type) := Hp → Mp → Store → Hp → α → β → Prop

section
variable {K : PySem.W.Frag} {ρ ρ' ρ'' : Mp} {st st' st'' : Store} {H H' H'' : Hp} {n n' n'' : Nat} {τ : En} {σ : St} {W : WX}

theorem EnvR.mono (e : Ext ρ st.length H ρ' n' H') (r : R K ρ st H) (h : EnvR K ρ st.length H τ σ) : EnvR K ρ' n' H' τ σ :=
  ⟨h.1, fun i d q => let ⟨v, a, b⟩ := h.2 i d q; ⟨v, a, b.mono e r⟩⟩
theorem EnvR.set {d : D} {v : V} (h : EnvR K ρ n H τ σ) (r : RelD K ρ n H d v) (i : Nat) : EnvR K ρ n H (τ.set i (some d)) (σ.set i (some v)) := by
  refine ⟨by simp [h.1], fun j d' q => ?_⟩
  by_cases hj : j = i
  · subst hj
    have hl : j < τ.length := by have := (List.getElem?_eq_some_iff.mp q).1; simpa using this
    rw [List.getElem?_set_self hl] at q
    cases q
    exact ⟨v, by rw [List.getElem?_set_self (h.1 ▸ hl)], r⟩
  · rw [List.getElem?_set_ne (Ne.symm hj)] at q
    obtain ⟨w, a, b⟩ := h.2 j d' q
    exact ⟨w, by rw [List.getElem?_set_ne (Ne.symm hj)]; exact a, b⟩
theorem EnvR.unset (h : EnvR K ρ n H τ σ) (i : Nat) : EnvR K ρ n H (τ.set i none) (σ.set i none) := by
  refine ⟨by simp [h.1], fun j d' q => ?_⟩
  by_cases hj : j = i
  · subst hj
    have hl : j < τ.length := by have := (List.getElem?_eq_some_iff.mp q).1; simpa using this
    rw [List.getElem?_set_self hl] at q
    cases q
  · rw [List.getElem?_set_ne (Ne.symm hj)] at q
    obtain ⟨w, a, b⟩ := h.2 j d' q
    exact ⟨w, by rw [List.getElem?_set_ne (Ne.symm hj)]; exact a, b⟩
/-- forgetting the comprehension's own slots -/
def wipeE (σ : En) : List Nat → En
  | [] => σ
  | v :: vs => (wipeE σ vs).set v none
theorem EnvR.wipe (h : EnvR K ρ n H τ σ) : ∀ vs : List Nat, EnvR K ρ n H (wipeE τ vs) (wipe σ vs)
  | [] => h
  | v :: vs => (EnvR.wipe h vs).unset v

/-- what is wanted of a result -/
def Out {α β : Type} (K : PySem.W.Frag) (Re : Rl α β) (W : WX) (σ : St) (ρ : Mp) (n : Nat) (H : Hp) (Q : β → Hp → Prop) : Rs α → Prop
  | .no => False
  | .ok d st' => ∀ ρ' H' v, Ext ρ n H ρ' st'.length H' → R K ρ' st' H' → Re H ρ' st' H' d v → Q v H'
  | .er x st' => ∀ ρ' H' cls dd, Ext ρ n H ρ' st'.length H' → R K ρ' st' H' → ExR K ρ' st'.length H' x cls dd → W cls dd σ H'
/-- the reading of an expression by its function of plain data -/
def tM {α β : Type} (K : PySem.W.Frag) (Re : Rl α β) (W : WX) (m : En → Store → Rs α) : St → Hp → (β → Hp → Prop) → Prop := fun σ H Q =>
  ∃ (ρ : Mp) (τ : En) (st : Store), R K ρ st H ∧ EnvR K ρ st.length H τ σ ∧ Out K Re W σ ρ st.length H Q (m τ st)
end

abbrev reD (K : PySem.W.Frag) : Rl D V := fun _ ρ st H d v => RelD K ρ st.length H d v
abbrev reL (K : PySem.W.Frag) : Rl (List D) (List V) := fun _ ρ st H ds vs => RelDs K ρ st.length H ds vs
abbrev reB : Rl Bool Bool := fun _ _ _ _ a b => a = b
/-- a list that this very expression has made: nothing else holds it -/
def reN (K : PySem.W.Frag) : Rl (List D) V := fun H0 ρ st H ds v => ∃ a vs, v = .ref a ∧ H0 a = none ∧ H a = some (.lst vs) ∧ R K (ρ.hide a) st H ∧ RelDs K (ρ.hide a) st.length H ds vs
class RlOk {α β : Type} (K : PySem.W.Frag) (Re : Rl α β) : Prop where
  back : ∀ {ρ ρ1 ρ' : Mp} {st st1 st' : Store} {H H1 H' : Hp} {d : α} {v : β}, Ext ρ st.length H ρ1 st1.length H1 → R K ρ1 st1 H1 → Re H1 ρ' st' H' d v → Re H ρ' st' H' d v
instance {K : PySem.W.Frag} : RlOk K (reD K) := ⟨fun _ _ h => h⟩
instance {K : PySem.W.Frag} : RlOk K (reL K) := ⟨fun _ _ h => h⟩
instance {K : PySem.W.Frag} : RlOk K reB := ⟨fun _ _ h => h⟩
instance {K : PySem.W.Frag} : RlOk K (reN K) := ⟨fun e r ⟨a, vs, h1, h2, h3⟩ => ⟨a, vs, h1, e.none_of r h2, h3⟩⟩

abbrev EvE (X : Cx) (W : WX) (e : Expr) (m : SE) : Prop := PE X e (tM X.K (reD X.K) W m)
abbrev EvB (X : Cx) (W : WX) (e : Expr) (m : SB) : Prop := PT X e (tM X.K reB W m)
abbrev EvW (X : Cx) (W : WX) (e : Expr) (m : SB) : Prop := PW X e (tM X.K reB W m)
abbrev EvA (X : Cx) (W : WX) (es : List Expr) (m : SA) : Prop := PA X es (tM X.K (reL X.K) W m)
/-- a new list that nothing else holds -/
abbrev EvF (X : Cx) (W : WX) (e : Expr) (m : SA) : Prop := PE X e (tM X.K (reN X.K) W m)

theorem PE.imp {X : Cx} {e : Expr} {t t' : TE} (h : PE X e t) (hi : ∀ σ H Q, t' σ H Q → t σ H Q) : PE X e t' := ⟨fun pins s σ H Q I q => h.run pins s σ H Q I (hi _ _ _ q)⟩
theorem PE.impI {X : Cx} {e : Expr} {t t' : TE} (h : PE X e t) (hi : ∀ pins s σ H Q, Inv X pins σ H s → t' σ H Q → t σ H Q) : PE X e t' := ⟨fun pins s σ H Q I q => h.run pins s σ H Q I (hi _ _ _ _ _ I q)⟩
theorem PT.imp {X : Cx} {e : Expr} {t t' : TT} (h : PT X e t) (hi : ∀ σ H Q, t' σ H Q → t σ H Q) : PT X e t' := ⟨fun pins s σ H Q I q => h.run pins s σ H Q I (hi _ _ _ q)⟩
theorem PW.imp {X : Cx} {e : Expr} {t t' : TT} (h : PW X e t) (hi : ∀ σ H Q, t' σ H Q → t σ H Q) : PW X e t' := ⟨fun wh pins s σ H Q I q => h.run wh pins s σ H Q I (hi _ _ _ q)⟩
theorem PA.imp {X : Cx} {e : List Expr} {t t' : TA} (h : PA X e t) (hi : ∀ σ H Q, t' σ H Q → t σ H Q) : PA X e t' := ⟨fun pos pins s σ H Q I q => h.run pos pins s σ H Q I (hi _ _ _ q)⟩
theorem PS.imp {X : Cx} {e : Stmt} {t t' : TS} (h : PS X e t) (hi : ∀ D σ H, t' D σ H → t D σ H) : PS X e t' := ⟨fun pins s σ H D I q => h.run pins s σ H D I (hi _ _ _ q)⟩
theorem PSs.imp {X : Cx} {e : List Stmt} {t t' : TS} (h : PSs X e t) (hi : ∀ D σ H, t' D σ H → t D σ H) : PSs X e t' := ⟨fun pins s σ H D I q => h.run pins s σ H D I (hi _ _ _ q)⟩

section
variable {α β γ δ : Type} {K : PySem.W.Frag} {ρ ρ' ρ1 : Mp} {st st' st1 : Store} {H H' H1 : Hp} {n n' : Nat} {τ : En} {σ : St} {W : WX} {Ra : Rl α β} {Rg : Rl γ δ} [RlOk K Ra] [RlOk K Rg]
/-- the result is wanted from a later state on -/
theorem Out.shift {Q : β → Hp → Prop} {r : Rs α} (h : Out K Ra W σ ρ st.length H Q r) (r0 : R K ρ st H) (e : Ext ρ st.length H ρ1 st1.length H1) (r1 : R K ρ1 st1 H1) : Out K Ra W σ ρ1 st1.length H1 Q r := by
  cases r with
  | no => exact h
  | ok d st' => exact fun ρ' H' v e' r' q => h ρ' H' v (e.trans r0 r1 e') r' (RlOk.back (K := K) e r1 q)
  | er x st' => exact fun ρ' H' c dd e' r' q => h ρ' H' c dd (e.trans r0 r1 e') r' q
/-- one step, then the rest -/
theorem Out.bind {Q : δ → Hp → Prop} {Q1 : β → Hp → Prop} {r : Rs α} {k : α → Store → Rs γ} (r0 : R K ρ st H) (h : Out K Rg W σ ρ st.length H Q (r.bind k))
    (hk : ∀ d st1 ρ1 H1 v, Ext ρ st.length H ρ1 st1.length H1 → R K ρ1 st1 H1 → Ra H ρ1 st1 H1 d v → Out K Rg W σ ρ1 st1.length H1 Q (k d st1) → Q1 v H1) : Out K Ra W σ ρ st.length H Q1 r := by
  cases r with
  | no => exact h
  | ok d st1 => exact fun ρ1 H1 v e1 r1 q => hk d st1 ρ1 H1 v e1 r1 q (Out.shift h r0 e1 r1)
  | er x st1 => exact h
theorem Out.mono {Q Q' : β → Hp → Prop} {r : Rs α} (h : Out K Ra W σ ρ n H Q r) (hq : ∀ v H', Q v H' → Q' v H') : Out K Ra W σ ρ n H Q' r := by
  cases r with
  | no => exact h
  | ok d st1 => exact fun ρ1 H1 v e1 r1 q => hq _ _ (h ρ1 H1 v e1 r1 q)
  | er x st1 => exact h
/-- nothing happens to the heap -/
theorem Out.here {Q : β → Hp → Prop} {d : α} {v : β} (r0 : R K ρ st H) (h : Out K Ra W σ ρ st.length H Q (.ok d st)) (q : Ra H ρ st H d v) : Q v H := h ρ H v .refl r0 q
/-- a new object that is not the store's -/
theorem Out.free {Q : β → Hp → Prop} {d : α} {v : β} {p : Addr} {u : HO} (r0 : R K ρ st H) (h : Out K Ra W σ ρ st.length H Q (.ok d st)) (hp : H p = none) (q : Ra H ρ st (upd H p u) d v) : Q v (upd H p u) :=
  h ρ _ v (r0.push_ext hp) (r0.free hp) q
/-- the first step of a reading -/
theorem tM.bind {Q : δ → Hp → Prop} {Q1 : β → Hp → Prop} {m : En → Store → Rs α} {k : α → Store → Rs γ} (r0 : R K ρ st H) (e0 : EnvR K ρ st.length H τ σ) (h : Out K Rg W σ ρ st.length H Q ((m τ st).bind k))
    (hk : ∀ d st1 ρ1 H1 v, Ext ρ st.length H ρ1 st1.length H1 → R K ρ1 st1 H1 → EnvR K ρ1 st1.length H1 τ σ → Ra H ρ1 st1 H1 d v → Out K Rg W σ ρ1 st1.length H1 Q (k d st1) → Q1 v H1) : tM K Ra W m σ H Q1 :=
  ⟨ρ, τ, st, r0, e0, Out.bind r0 h fun d st1 ρ1 H1 v e1 r1 q o => hk d st1 ρ1 H1 v e1 r1 (e0.mono e1 r0) q o⟩
theorem tM.go {Q : β → Hp → Prop} {m : En → Store → Rs α} (r0 : R K ρ st H) (e0 : EnvR K ρ st.length H τ σ) (h : Out K Ra W σ ρ st.length H Q (m τ st)) : tM K Ra W m σ H Q := ⟨ρ, τ, st, r0, e0, h⟩
end

/-! ### names, constants -/
def mVar (i : Nat) : SE := fun σ st => match σ[i]? with
  | some (some d) => .ok d st
  | _ => .no
def mC (d : D) : SE := fun _ st => .ok d st
section
variable {X : Cx} {W : WX} {e a b c : Expr} {es : List Expr} {m ma mb mc : SE} {ms : SA} {pos : Pos}
theorem ev_of_var {i : Nat} (h : PE X e (tVar i)) : EvE X W e (mVar i) := PE.imp h fun σ H Q ⟨ρ, τ, st, r, en, o⟩ => by
  unfold mVar at o
  cases q : τ[i]? with
  | none => rw [q] at o; exact o.elim
  | some x =>
    cases x with
    | none => rw [q] at o; exact o.elim
    | some d =>
      rw [q] at o
      obtain ⟨v, hv, rv⟩ := en.2 i d q
      exact ⟨v, hv, o.here r rv⟩
theorem ev_var (i : Nat) {x : Str} (hN : X.N[i]? = some x := by rfl) (hv : Vis X.env.scope x := by first | exact Or.inl rfl | exact Or.inr (Or.inl rfl) | exact Or.inr (Or.inr rfl)) (hd : (x == ("__debug__" : Str)) = false := by decide)
    (hcd : (x == ("__classdict__" : Str)) = false := by decide) : EvE X W (.Name x pos) (mVar i) := ev_of_var (pe_var hN hv hd hcd)
theorem ev_of_const {d : D} {v : V} (h : PE X e (tC v)) (hr : ∀ ρ n H, RelD X.K ρ n H d v) : EvE X W e (mC d) := PE.imp h fun σ H Q ⟨ρ, τ, st, r, en, o⟩ => o.here r (hr _ _ _)
theorem ev_int {i : Int} {j} : EvE X W (.Constant (.int i) j pos) (mC (.int i)) := ev_of_const pe_int fun _ _ _ => by simp [RelD]
theorem ev_bl {i : Bool} {j} : EvE X W (.Constant (.bool i) j pos) (mC (.bl i)) := ev_of_const pe_bl fun _ _ _ => by simp [RelD]
theorem ev_non {j} : EvE X W (.Constant .none j pos) (mC .non) := ev_of_const pe_non fun _ _ _ => by simp [RelD]
theorem ev_str {i : Str} {j} : EvE X W (.Constant (.str i) j pos) (mC (.str i)) := ev_of_const pe_str fun _ _ _ => by simp [RelD]
/-- a def (or a class) of the module as a value -/
theorem ev_fn {x : Str} {f : Addr} (hg : Gl X x) (hm : X.mg x = some (.ref f)) (hd : (x == ("__debug__" : Str)) = false := by decide) : EvE X W (.Name x pos) (mC (.fn f)) := ev_of_const (pe_glob (v := .ref f) hg hm rfl hd) fun _ _ _ => by simp [RelD]
theorem ev_gint {x : Str} {i : Int} {t : Tok} (hg : Gl X x) (hm : X.mg x = some (.int i t)) (hd : (x == ("__debug__" : Str)) = false := by decide) : EvE X W (.Name x pos) (mC (.int i)) := ev_of_const (pe_glob (v := .int i) hg hm ⟨t, rfl⟩ hd) fun _ _ _ => by simp [RelD]
theorem ev_gstr {x : Str} {i : Str} {t : Tok} (hg : Gl X x) (hm : X.mg x = some (.str i t)) (hd : (x == ("__debug__" : Str)) = false := by decide) : EvE X W (.Name x pos) (mC (.str i)) := ev_of_const (pe_glob (v := .str i) hg hm ⟨t, rfl⟩ hd) fun _ _ _ => by simp [RelD]
theorem ev_ty {x : Str} {T : String} (hg : Gl X x) (hm : X.mg x = none) (hv : bootBuiltins x = some (.type T)) (hn : x ≠ "__name__" := by decide) (hd : (x == ("__debug__" : Str)) = false := by decide) : EvE X W (.Name x pos) (mC (.ty T)) :=
  ev_of_const (pe_bltn (v := .ty T) hg hm hv rfl hn hd) fun _ _ _ => by simp [RelD]

/-! ### arguments -/
def mNil : SA := fun _ st => .ok [] st
def mCons (m : SE) (ms : SA) : SA := fun σ st => (m σ st).bind fun d st1 => (ms σ st1).bind fun ds st2 => .ok (d :: ds) st2
theorem ea_nil : EvA X W [] mNil := PA.imp pa_nil fun σ H Q ⟨ρ, τ, st, r, en, o⟩ => o.here r RelDs.nil
theorem ea_cons (h : EvE X W e m) (ht : EvA X W es ms) (hs : starEach (e :: es) X.env = (false, eval e X.env) :: starEach es X.env := by rfl) : EvA X W (e :: es) (mCons m ms) :=
  PA.imp (pa_cons h ht hs) fun σ H Q ⟨ρ, τ, st, r, en, o⟩ => tM.bind r en o fun d st1 ρ1 H1 v e1 r1 en1 q o1 =>
    tM.bind r1 en1 o1 fun ds st2 ρ2 H2 vs e2 r2 en2 qs o2 => o2.here r2 (.cons (q.mono e2 r1) qs)

/-! ### operators -/
/-- an operator by values -/
def OpS (X : Cx) (g : Value → Value → Sem Value) (f : D → D → Store → Rs D) : Prop :=
  ∃ r, OpR X g r ∧ ∀ (W : WX) (σ : St) (ρ : Mp) (st : Store) (H : Hp) (x y : D) (vx vy : V) (Q : VK), R X.K ρ st H → RelD X.K ρ st.length H x vx → RelD X.K ρ st.length H y vy → Out X.K (reD X.K) W σ ρ st.length H Q (f x y st) → r vx vy H Q
def mOp (f : D → D → Store → Rs D) (ma mb : SE) : SE := fun σ st => (ma σ st).bind fun x st1 => (mb σ st1).bind fun y st2 => f x y st2
theorem tM.op {f : D → D → Store → Rs D} {r : R2} (hr : ∀ (W : WX) (σ : St) (ρ : Mp) (st : Store) (H : Hp) (x y : D) (vx vy : V) (Q : VK), R X.K ρ st H → RelD X.K ρ st.length H x vx → RelD X.K ρ st.length H y vy → Out X.K (reD X.K) W σ ρ st.length H Q (f x y st) → r vx vy H Q)
    {σ : St} {H : Hp} {Q : VK} (h : tM X.K (reD X.K) W (mOp f ma mb) σ H Q) : tOp r (tM X.K (reD X.K) W ma) (tM X.K (reD X.K) W mb) σ H Q := by
  obtain ⟨ρ, τ, st, r0, en, o⟩ := h
  exact tM.bind r0 en o fun x st1 ρ1 H1 vx e1 r1 en1 qx o1 => tM.bind r1 en1 o1 fun y st2 ρ2 H2 vy e2 r2 en2 qy o2 => hr W σ ρ2 st2 H2 x y vx vy Q r2 (qx.mono e2 r1) qy o2
theorem ev_op {op : Operator} {f : D → D → Store → Rs D} (ho : OpS X (binaryOp op) f) (ha : EvE X W a ma) (hb : EvE X W b mb) : EvE X W (.BinOp a op b pos) (mOp f ma mb) := by
  obtain ⟨r, h1, h2⟩ := ho
  exact PE.imp (pe_op h1 ha hb) fun σ H Q h => tM.op h2 h
theorem ev_cmp {op : CmpOp} {f : D → D → Store → Rs D} (ho : OpS X (compareOp op) f) (ha : EvE X W a ma) (hb : EvE X W b mb) (hm : behindInMarks op b = false) : EvE X W (.Compare a [op] [b] pos) (mOp f ma mb) := by
  obtain ⟨r, h1, h2⟩ := ho
  exact PE.imp (pe_cmpR h1 ha hb hm) fun σ H Q h => tM.op h2 h
/-- a value that is a bool, as a test -/
def asB (r : Rs D) : Rs Bool := r.bind fun d st => match d with
  | .bl b => .ok b st
  | _ => .no
def mB (m : SE) : SB := fun σ st => asB (m σ st)
theorem tM.tst {σ : St} {H : Hp} {Q : Bool → Hp → Prop} (h : tM X.K reB W (mB m) σ H Q) : tM X.K (reD X.K) W m σ H fun x H' => ∃ k, x = .bl k ∧ Q k H' := by
  obtain ⟨ρ, τ, st, r0, en, o⟩ := h
  refine tM.bind r0 en o fun d st1 ρ1 H1 v e1 r1 en1 q o1 => ?_
  cases d with
  | bl b => simp only [RelD] at q; exact ⟨b, q, o1.here r1 rfl⟩
  | _ => exact o1.elim
theorem et_val (h : EvE X W e m) (he : ∀ whole, isTrue e X.env whole = (do let v ← whole; standAt e.pos; holding [v] (truthy v)) := by intro _; rfl) : EvB X W e (mB m) :=
  PT.imp (pt_val h he) fun σ H Q h => tM.tst h
theorem et_cmp {op : CmpOp} {f : D → D → Store → Rs D} (ho : OpS X (compareOp op) f) (ha : EvE X W a ma) (hb : EvE X W b mb) (hm : behindInMarks op b = false) : EvB X W (.Compare a [op] [b] pos) (mB (mOp f ma mb)) := by
  obtain ⟨r, h1, h2⟩ := ho
  refine PT.imp (pt_cmpR h1 ha hb hm) fun σ H Q h => ?_
  exact tM.op h2 (tM.tst h)
/-! ### and, or, not -/
variable {t u : SB} {rest : List Expr}
def mAnd (t u : SB) : SB := fun σ st => (t σ st).bind fun c st1 => if c = true then u σ st1 else .ok false st1
def mOr (t u : SB) : SB := fun σ st => (t σ st).bind fun c st1 => if c = true then .ok true st1 else u σ st1
def mNot (t : SB) : SB := fun σ st => (t σ st).bind fun c st1 => .ok (!c) st1
theorem et_of (h : EvW X W e t) : EvB X W e t := PW.pt h
theorem ew_and1 (h : EvB X W a t) : EvW X W (.BoolOp .And [a] pos) t := pw_and1 h
theorem ew_or1 (h : EvB X W a t) : EvW X W (.BoolOp .Or [a] pos) t := pw_or1 h
theorem ew_and (h : EvB X W a t) (h2 : EvW X W (.BoolOp .And (b :: rest) pos) u) : EvW X W (.BoolOp .And (a :: b :: rest) pos) (mAnd t u) := PW.imp (pw_and h h2) fun σ H Q ⟨ρ, τ, st, r0, en, o⟩ =>
  tM.bind r0 en o fun c st1 ρ1 H1 k e1 r1 en1 q o1 => by
    cases (show c = k from q)
    cases c with
    | true => exact tM.go r1 en1 o1
    | false => exact o1.here r1 rfl
theorem ew_or (h : EvB X W a t) (h2 : EvW X W (.BoolOp .Or (b :: rest) pos) u) : EvW X W (.BoolOp .Or (a :: b :: rest) pos) (mOr t u) := PW.imp (pw_or h h2) fun σ H Q ⟨ρ, τ, st, r0, en, o⟩ =>
  tM.bind r0 en o fun c st1 ρ1 H1 k e1 r1 en1 q o1 => by
    cases (show c = k from q)
    cases c with
    | false => exact tM.go r1 en1 o1
    | true => exact o1.here r1 rfl
theorem et_not (h : EvB X W a t) : EvB X W (.UnaryOp .Not a pos) (mNot t) := PT.imp (pt_not h) fun σ H Q ⟨ρ, τ, st, r0, en, o⟩ =>
  tM.bind r0 en o fun c st1 ρ1 H1 k e1 r1 en1 q o1 => by
    cases (show c = k from q)
    exact o1.here r1 rfl
/-- .. as values that are bools -/
def mAndV (ma mb : SE) : SE := fun σ st => (ma σ st).bind fun x st1 => match x with
  | .bl true => mb σ st1
  | .bl false => .ok (.bl false) st1
  | _ => .no
def mOrV (ma mb : SE) : SE := fun σ st => (ma σ st).bind fun x st1 => match x with
  | .bl false => mb σ st1
  | .bl true => .ok (.bl true) st1
  | _ => .no
def mNotV (ma : SE) : SE := fun σ st => (ma σ st).bind fun x st1 => match x with
  | .bl b => .ok (.bl (!b)) st1
  | _ => .no
theorem ev_one {op} (h : EvE X W a m) : EvE X W (.BoolOp op [a] pos) m := pe_one h
theorem ev_and (h : EvE X W a ma) (h2 : EvE X W (.BoolOp .And (b :: rest) pos) mb) : EvE X W (.BoolOp .And (a :: b :: rest) pos) (mAndV ma mb) := PE.imp (pe_and h h2) fun σ H Q ⟨ρ, τ, st, r0, en, o⟩ =>
  tM.bind r0 en o fun x st1 ρ1 H1 v e1 r1 en1 q o1 => by
    cases x with
    | bl c =>
      simp only [RelD] at q
      refine ⟨c, q, ?_⟩
      cases c with
      | true => exact tM.go r1 en1 o1
      | false => exact o1.here r1 (by simp [reD, RelD])
    | _ => exact o1.elim
theorem ev_or (h : EvE X W a ma) (h2 : EvE X W (.BoolOp .Or (b :: rest) pos) mb) : EvE X W (.BoolOp .Or (a :: b :: rest) pos) (mOrV ma mb) := PE.imp (pe_or h h2) fun σ H Q ⟨ρ, τ, st, r0, en, o⟩ =>
  tM.bind r0 en o fun x st1 ρ1 H1 v e1 r1 en1 q o1 => by
    cases x with
    | bl c =>
      simp only [RelD] at q
      refine ⟨c, q, ?_⟩
      cases c with
      | false => exact tM.go r1 en1 o1
      | true => exact o1.here r1 (by simp [reD, RelD])
    | _ => exact o1.elim
theorem ev_not (h : EvE X W a ma) : EvE X W (.UnaryOp .Not a pos) (mNotV ma) := PE.imp (pe_not h) fun σ H Q ⟨ρ, τ, st, r0, en, o⟩ =>
  tM.bind r0 en o fun x st1 ρ1 H1 v e1 r1 en1 q o1 => by
    cases x with
    | bl c =>
      simp only [RelD] at q
      exact ⟨c, q, o1.here r1 (by simp [reD, RelD])⟩
    | _ => exact o1.elim
def mIf (t : SB) (ma mb : SE) : SE := fun σ st => (t σ st).bind fun c st1 => if c = true then ma σ st1 else mb σ st1
theorem ev_if (h : EvB X W c t) (ha : EvE X W a ma) (hb : EvE X W b mb) : EvE X W (.IfExp c a b pos) (mIf t ma mb) := PE.imp (pe_ifExp h ha hb) fun σ H Q ⟨ρ, τ, st, r0, en, o⟩ =>
  tM.bind r0 en o fun c st1 ρ1 H1 k e1 r1 en1 q o1 => by
    cases (show c = k from q)
    cases c with
    | true => exact tM.go r1 en1 o1
    | false => exact tM.go r1 en1 o1
/-! ### displays -/
def mTup (ms : SA) : SE := fun σ st => (ms σ st).bind fun ds st1 => .ok (.tup ds) st1
def mNew (ms : SA) : SE := fun σ st => (ms σ st).bind fun ds st1 => .ok (.loc st1.length) (st1 ++ [.lst ds])
def mFrz (ms : SA) : SE := fun σ st => (ms σ st).bind fun ds st1 => .ok (.lst ds) st1
def LenA (ms : SA) (k : Nat) : Prop := ∀ σ st ds st', ms σ st = .ok ds st' → ds.length = k
theorem lenA_nil : LenA mNil 0 := fun σ st ds st' h => by unfold mNil at h; cases h; rfl
theorem lenA_cons {k : Nat} (h : LenA ms k) : LenA (mCons m ms) (k + 1) := fun σ st ds st' q => by
  unfold mCons at q
  cases e1 : m σ st with
  | no => rw [e1] at q; cases q
  | er x s => rw [e1] at q; cases q
  | ok d s1 =>
    rw [e1] at q
    simp only [Rs.bind_ok] at q
    cases e2 : ms σ s1 with
    | no => rw [e2] at q; cases q
    | er x s => rw [e2] at q; cases q
    | ok r s2 =>
      rw [e2] at q
      simp only [Rs.bind_ok] at q
      cases q
      simp [h _ _ _ _ e2]
theorem len100 {k : Nat} (h : k ≤ 100) : k ≤ sizeLine := Nat.le_trans h (by decide)
theorem ev_tup {x1} {k : Nat} (h : EvA X W es ms) (hl : LenA ms k) (hk : k ≤ 100 := by decide) : EvE X W (.Tuple es x1 pos) (mTup ms) := PE.imp (pe_tup h) fun σ H Q ⟨ρ, τ, st, r0, en, o⟩ => by
  refine ⟨ρ, τ, st, r0, en, ?_⟩
  cases q : ms τ st with
  | no => simp only [mTup, q] at o; exact o
  | er x s => simp only [mTup, q] at o; exact o
  | ok ds st1 =>
    simp only [mTup, q] at o
    intro ρ1 H1 vs e1 r1 rv
    refine ⟨by rw [rv.len, hl _ _ _ _ q]; exact len100 hk, fun p hp => ?_⟩
    refine (Out.shift o r0 e1 r1).free r1 hp ?_
    simp only [reD, RelD]
    exact ⟨p, vs, rfl, upd_same, RelDs.mono (r1.push_ext hp) r1 ds rv⟩
/-- a new list, laid into the store -/
theorem Out.alloc {α : Type} {K : PySem.W.Frag} {ρ : Mp} {st : Store} {H : Hp} {σ : St} {Q : VK} {p : Addr} {u : HO} {o : O} (r0 : R K ρ st H) (h : Out K (reD K) W σ ρ st.length H Q (.ok (.loc st.length) (st ++ [o]))) (hp : H p = none)
    (q : ObjR K (put ρ st.length p) (st.length + 1) (upd H p u) o p) : Q (.ref p) (upd H p u) := by
  refine h (put ρ st.length p) _ (.ref p) ?_ (r0.alloc hp q) ?_
  · rw [List.length_append, List.length_singleton]; exact put_ext hp
  · simp only [reD, RelD, put_at, List.length_append, List.length_singleton]
    exact ⟨trivial, Nat.lt_succ_self _⟩
/-- a display of a list is new -/
theorem Out.fresh {K : PySem.W.Frag} {ρ : Mp} {st : Store} {H : Hp} {σ : St} {Q : VK} {p : Addr} {ds : List D} {vs : List V} (r0 : R K ρ st H) (h : Out K (reN K) W σ ρ st.length H Q (.ok ds st)) (hp : H p = none) (q : RelDs K ρ st.length H ds vs) : Q (.ref p) (upd H p (.lst vs)) :=
  h ρ _ (.ref p) (r0.push_ext hp) (r0.free hp) ⟨p, vs, rfl, hp, upd_same, r0.hide hp rfl, RelDs.hide hp ds q⟩
theorem ef_lst {k : Nat} (h : EvA X W es ms) (hl : LenA ms k) (hk : k ≤ 100 := by decide) : EvF X W (.List es pos) ms := PE.imp (pe_lst h) fun σ H Q ⟨ρ, τ, st, r0, en, o⟩ => by
  refine ⟨ρ, τ, st, r0, en, ?_⟩
  cases q : ms τ st with
  | no => rw [q] at o; exact o
  | er x s => rw [q] at o; exact o
  | ok ds st1 =>
    rw [q] at o
    intro ρ1 H1 vs e1 r1 rv
    refine ⟨by rw [rv.len, hl _ _ _ _ q]; exact len100 hk, fun p hp => ?_⟩
    exact (Out.shift o r0 e1 r1).fresh r1 hp rv
/-- a new list, as one that is only read -/
theorem tM.frz {σ : St} {H : Hp} {Q : VK} (h : tM X.K (reD X.K) W (mFrz ms) σ H Q) : tM X.K (reN X.K) W ms σ H Q := by
  obtain ⟨ρ, τ, st, r0, en, o⟩ := h
  exact tM.bind r0 en o fun ds st1 ρ1 H1 v e1 r1 en1 q o1 => by
    obtain ⟨a, vs, rfl, h0, ha, rh, rv⟩ := q
    refine o1.here r1 ?_
    simp only [reD, RelD]
    refine ⟨a, vs, rfl, .inl ⟨.inl ha, fun i hi z => rh.sep i hi (.inr z), fun z => ?_⟩, RelDs.show' ds rv⟩
    have z' : ρ.hid a := by rw [← e1.hid]; exact z
    exact r0.nh_none h0 z'
theorem ev_frz (h : EvF X W e ms) : EvE X W e (mFrz ms) := PE.imp h fun σ H Q q => tM.frz q
mutual
theorem RelD.told {K : PySem.W.Frag} {ρ : Mp} {n : Nat} {H : Hp} {p : Addr} : ∀ (d : D) {v : V}, RelD K (ρ.hide p) n H d v → RelD K (put ρ n p) (n + 1) H d v
  | .non, v, h => by simpa only [RelD] using h
  | .bl b, v, h => by simpa only [RelD] using h
  | .int b, v, h => by simpa only [RelD] using h
  | .str b, v, h => by simpa only [RelD] using h
  | .ty b, v, h => by simpa only [RelD] using h
  | .fn b, v, h => by simpa only [RelD] using h
  | .tup xs, v, h => by
    simp only [RelD] at h ⊢
    obtain ⟨a, vs, rfl, s, q⟩ := h
    exact ⟨a, vs, rfl, s, RelDs.told xs q⟩
  | .lst xs, v, h => by
    simp only [RelD] at h ⊢
    obtain ⟨a, vs, rfl, s, q⟩ := h
    refine ⟨a, vs, rfl, ?_, RelDs.told xs q⟩
    rcases s with ⟨h, ni, nh⟩ | h
    · refine .inl ⟨h, fun i hi z => ?_, fun z => nh (.inl z)⟩
      by_cases e : i = n
      · rw [e, put_at] at z; exact nh (.inr z.symm)
      · rw [put_ne e] at z; exact ni i (by omega) z
    · exact .inr h
  | .loc i, v, h => by
    simp only [RelD] at h ⊢
    rw [put_ne (Nat.ne_of_lt h.2)]
    exact ⟨h.1, Nat.lt_succ_of_lt h.2⟩
theorem RelDs.told {K : PySem.W.Frag} {ρ : Mp} {n : Nat} {H : Hp} {p : Addr} : ∀ (ds : List D) {vs : List V}, RelDs K (ρ.hide p) n H ds vs → RelDs K (put ρ n p) (n + 1) H ds vs
  | [], vs, h => by simpa only [RelDs] using h
  | d :: ds, vs, h => by
    simp only [RelDs] at h ⊢
    obtain ⟨v, w, rfl, h1, h2⟩ := h
    exact ⟨v, w, rfl, RelD.told d h1, RelDs.told ds h2⟩
end
theorem R.told {K : PySem.W.Frag} {ρ : Mp} {st : Store} {H : Hp} {p : Addr} {ds : List D} {vs : List V} (r : R K (ρ.hide p) st H) (np : ¬ ρ.hid p) (hp : H p = some (.lst vs)) (rv : RelDs K (ρ.hide p) st.length H ds vs) : R K (put ρ st.length p) (st ++ [.lst ds]) H := by
  have sep : ∀ i, i < st.length → ρ.at' i ≠ p := fun i hi z => r.sep i hi (.inr z)
  refine ⟨fun i x h => ?_, fun i j hi hj e => ?_, fun a h => r.hid a (.inl h), fun i hi => ?_⟩
  · rw [List.length_append, List.length_singleton]
    by_cases hi : i < st.length
    · rw [List.getElem?_append_left hi] at h
      rw [put_ne (Nat.ne_of_lt hi)]
      have q := r.obj i x h
      revert q
      cases x with
      | lst ds => rintro ⟨vs, h, q⟩; exact ⟨vs, h, RelDs.told ds q⟩
      | dk ds => rintro ⟨vs, h, q⟩; exact ⟨vs, h, Paired.monoP q fun p q z => ⟨z.1, RelD.told _ z.2⟩⟩
      | dt ds => rintro ⟨vs, h, q⟩; exact ⟨vs, h, Paired.monoP q fun p q z => ⟨z.1, RelD.told _ z.2⟩⟩
    · have hl : i = st.length := by
        have := (List.getElem?_eq_some_iff.mp h).1
        simp at this; omega
      subst hl
      simp at h; subst h
      rw [put_at]; exact ⟨vs, hp, RelDs.told ds rv⟩
  · rw [List.length_append, List.length_singleton] at hi hj
    by_cases h1 : i = st.length
    · by_cases h2 : j = st.length
      · rw [h1, h2]
      · rw [h1, put_at, put_ne h2] at e
        exact absurd e.symm (sep j (by omega))
    · by_cases h2 : j = st.length
      · rw [h2, put_at, put_ne h1] at e
        exact absurd e (sep i (by omega))
      · rw [put_ne h1, put_ne h2] at e
        exact r.inj i j (by omega) (by omega) e
  · rw [List.length_append, List.length_singleton] at hi
    by_cases h1 : i = st.length
    · rw [h1, put_at]; exact np
    · rw [put_ne h1]; exact fun z => r.sep i (by omega) (.inl z)
/-- a new list, laid into the store -/
theorem tM.new {σ : St} {H : Hp} {Q : VK} (h : tM X.K (reD X.K) W (mNew ms) σ H Q) : tM X.K (reN X.K) W ms σ H Q := by
  obtain ⟨ρ, τ, st, r0, en, o⟩ := h
  refine ⟨ρ, τ, st, r0, en, ?_⟩
  cases q : ms τ st with
  | no => simp only [mNew, q] at o; exact o
  | er x s => simp only [mNew, q] at o; exact o
  | ok ds st1 =>
    simp only [mNew, q] at o
    rintro ρ1 H1 v e1 r1 ⟨a, vs, rfl, h0, ha, rh, rv⟩
    have np : ¬ ρ1.hid a := by rw [e1.hid]; exact r0.nh_none h0
    refine o (put ρ1 st1.length a) H1 (.ref a) ?_ (rh.told np ha rv) ?_
    · rw [List.length_append, List.length_singleton]
      refine ⟨Nat.le_succ_of_le e1.le, fun i hi => (put_ne (by have := e1.le; omega)).trans (e1.old i hi), fun i h1 h2 => ?_, e1.keep, e1.hid⟩
      by_cases e : i = st1.length
      · rw [e, put_at]; exact h0
      · rw [put_ne e]; exact e1.new i h1 (by omega)
    · simp only [reD, RelD, put_at, List.length_append, List.length_singleton]
      exact ⟨trivial, Nat.lt_succ_self _⟩
theorem ev_new (h : EvF X W e ms) : EvE X W e (mNew ms) := PE.imp h fun σ H Q q => tM.new q
end
end Fx

set_option Elab.async false
set_option linter.all false
set_option maxRecDepth 100000
set_option maxHeartbeats 4000000
namespace Fx
open PySem L2

/-! ### statements -/
def OutS (K : PySem.W.Frag) (W : WX) (ρ : Mp) (n : Nat) (H : Hp) (D : Ends) : Rt → Prop
  | .no => False
  | .nx τ' st' => ∀ ρ' H' σ', Ext ρ n H ρ' st'.length H' → R K ρ' st' H' → EnvR K ρ' st'.length H' τ' σ' → D.nx σ' H'
  | .rt d st' => ∀ ρ' H' v, Ext ρ n H ρ' st'.length H' → R K ρ' st' H' → RelD K ρ' st'.length H' d v → D.rt v H'
  | .bk τ' st' => ∀ ρ' H' σ', Ext ρ n H ρ' st'.length H' → R K ρ' st' H' → EnvR K ρ' st'.length H' τ' σ' → D.bk σ' H'
  | .ct τ' st' => ∀ ρ' H' σ', Ext ρ n H ρ' st'.length H' → R K ρ' st' H' → EnvR K ρ' st'.length H' τ' σ' → D.ct σ' H'
  | .er x τ' st' => ∀ ρ' H' σ' cls dd, Ext ρ n H ρ' st'.length H' → R K ρ' st' H' → EnvR K ρ' st'.length H' τ' σ' → ExR K ρ' st'.length H' x cls dd → W cls dd σ' H'
def tSt (K : PySem.W.Frag) (W : WX) (m : SS) : TS := fun D σ H =>
  ∃ (ρ : Mp) (τ : En) (st : Store), R K ρ st H ∧ EnvR K ρ st.length H τ σ ∧ OutS K W ρ st.length H D (m τ st)
abbrev EvS (X : Cx) (W : WX) (s : Stmt) (m : SS) : Prop := PS X s (tSt X.K W m)
abbrev EvSs (X : Cx) (W : WX) (ss : List Stmt) (m : SS) : Prop := PSs X ss (tSt X.K W m)

/-- an expression's result, in a statement -/
def Rs.go {α : Type} (r : Rs α) (τ : En) (k : α → Store → Rt) : Rt := match r with
  | .no => .no
  | .ok a st => k a st
  | .er x st => .er x τ st
@[simp] theorem Rs.go_no {α : Type} (τ : En) (k : α → Store → Rt) : (Rs.no : Rs α).go τ k = .no := rfl
@[simp] theorem Rs.go_ok {α : Type} (a : α) (st : Store) (τ : En) (k : α → Store → Rt) : (Rs.ok a st).go τ k = k a st := rfl
@[simp] theorem Rs.go_er {α : Type} (x : Ex) (st : Store) (τ : En) (k : α → Store → Rt) : (Rs.er x st : Rs α).go τ k = .er x τ st := rfl
/-- a statement, then the rest -/
def Rt.seq (r : Rt) (k : En → Store → Rt) : Rt := match r with
  | .nx τ st => k τ st
  | r => r
@[simp] theorem Rt.seq_no (k : En → Store → Rt) : Rt.no.seq k = .no := rfl
@[simp] theorem Rt.seq_nx (τ : En) (st : Store) (k : En → Store → Rt) : (Rt.nx τ st).seq k = k τ st := rfl
@[simp] theorem Rt.seq_rt (d : D) (st : Store) (k : En → Store → Rt) : (Rt.rt d st).seq k = .rt d st := rfl
@[simp] theorem Rt.seq_bk (τ : En) (st : Store) (k : En → Store → Rt) : (Rt.bk τ st).seq k = .bk τ st := rfl
@[simp] theorem Rt.seq_ct (τ : En) (st : Store) (k : En → Store → Rt) : (Rt.ct τ st).seq k = .ct τ st := rfl
@[simp] theorem Rt.seq_er (x : Ex) (τ : En) (st : Store) (k : En → Store → Rt) : (Rt.er x τ st).seq k = .er x τ st := rfl

/-- what a loop's body does, for the loop -/
def Rt.loop (r : Rt) (k : En → Store → Rt) : Rt := match r with
  | .nx τ st => k τ st
  | .ct τ st => k τ st
  | .bk τ st => .nx τ st
  | r => r
@[simp] theorem Rt.loop_no (k : En → Store → Rt) : Rt.no.loop k = .no := rfl
@[simp] theorem Rt.loop_nx (τ : En) (st : Store) (k : En → Store → Rt) : (Rt.nx τ st).loop k = k τ st := rfl
@[simp] theorem Rt.loop_rt (d : D) (st : Store) (k : En → Store → Rt) : (Rt.rt d st).loop k = .rt d st := rfl
@[simp] theorem Rt.loop_bk (τ : En) (st : Store) (k : En → Store → Rt) : (Rt.bk τ st).loop k = .nx τ st := rfl
@[simp] theorem Rt.loop_ct (τ : En) (st : Store) (k : En → Store → Rt) : (Rt.ct τ st).loop k = k τ st := rfl
@[simp] theorem Rt.loop_er (x : Ex) (τ : En) (st : Store) (k : En → Store → Rt) : (Rt.er x τ st).loop k = .er x τ st := rfl
section
variable {α β : Type} {K : PySem.W.Frag} {ρ ρ' ρ1 : Mp} {st st' st1 : Store} {H H' H1 : Hp} {n n' : Nat} {τ : En} {σ : St} {W : WX} {Ra : Rl α β} [RlOk K Ra] {D : Ends}
theorem OutS.shift {r : Rt} (h : OutS K W ρ st.length H D r) (r0 : R K ρ st H) (e : Ext ρ st.length H ρ1 st1.length H1) (r1 : R K ρ1 st1 H1) : OutS K W ρ1 st1.length H1 D r := by
  cases r with
  | no => exact h
  | nx a b => exact fun ρ' H' v e' r' q => h ρ' H' v (e.trans r0 r1 e') r' q
  | rt a b => exact fun ρ' H' v e' r' q => h ρ' H' v (e.trans r0 r1 e') r' q
  | bk a b => exact fun ρ' H' v e' r' q => h ρ' H' v (e.trans r0 r1 e') r' q
  | ct a b => exact fun ρ' H' v e' r' q => h ρ' H' v (e.trans r0 r1 e') r' q
  | er x a b => exact fun ρ' H' σ' c dd e' r' q z => h ρ' H' σ' c dd (e.trans r0 r1 e') r' q z
theorem OutS.go {r : Rs α} {k : α → Store → Rt} {Q1 : β → Hp → Prop} (r0 : R K ρ st H) (en : EnvR K ρ st.length H τ σ) (h : OutS K W ρ st.length H D (r.go τ k))
    (hk : ∀ d st1 ρ1 H1 v, Ext ρ st.length H ρ1 st1.length H1 → R K ρ1 st1 H1 → EnvR K ρ1 st1.length H1 τ σ → Ra H ρ1 st1 H1 d v → OutS K W ρ1 st1.length H1 D (k d st1) → Q1 v H1) : Out K Ra W σ ρ st.length H Q1 r := by
  cases r with
  | no => exact h
  | ok d st1 => exact fun ρ1 H1 v e1 r1 q => hk d st1 ρ1 H1 v e1 r1 (en.mono e1 r0) q (OutS.shift h r0 e1 r1)
  | er x st1 => exact fun ρ1 H1 c dd e1 r1 q => h ρ1 H1 σ c dd e1 r1 (en.mono e1 r0) q
theorem tM.goS {m : En → Store → Rs α} {k : α → Store → Rt} {Q1 : β → Hp → Prop} (r0 : R K ρ st H) (en : EnvR K ρ st.length H τ σ) (h : OutS K W ρ st.length H D ((m τ st).go τ k))
    (hk : ∀ d st1 ρ1 H1 v, Ext ρ st.length H ρ1 st1.length H1 → R K ρ1 st1 H1 → EnvR K ρ1 st1.length H1 τ σ → Ra H ρ1 st1 H1 d v → OutS K W ρ1 st1.length H1 D (k d st1) → Q1 v H1) : tM K Ra W m σ H Q1 :=
  ⟨ρ, τ, st, r0, en, OutS.go r0 en h hk⟩
theorem OutS.next {D : Ends} {τ' : En} {σ' : St} (r0 : R K ρ st H) (h : OutS K W ρ st.length H D (.nx τ' st)) (en : EnvR K ρ st.length H τ' σ') : D.nx σ' H := h ρ H σ' .refl r0 en
end

section
variable {X : Cx} {W : WX} {e a b c : Expr} {es : List Expr} {s : Stmt} {ss bs : List Stmt} {m ma mb mc : SE} {t : SB} {u v w : SS} {pos : Pos}
def sSkip : SS := fun τ st => .nx τ st
def sSeq (u v : SS) : SS := fun τ st => (u τ st).seq v
def sExpr (m : SE) : SS := fun τ st => (m τ st).go τ fun _ st1 => .nx τ st1
def sRet (m : SE) : SS := fun τ st => (m τ st).go τ fun d st1 => .rt d st1
def sRetN : SS := fun _ st => .rt .non st
def sIf (t : SB) (u v : SS) : SS := fun τ st => (t τ st).go τ fun c st1 => if c = true then u τ st1 else v τ st1
def sSet (i : Nat) (m : SE) : SS := fun τ st => (m τ st).go τ fun d st1 => .nx (τ.set i (some d)) st1
def sBrk : SS := fun τ st => .bk τ st
def sCnt : SS := fun τ st => .ct τ st
def sNo : SS := fun _ _ => .no
theorem es_nil : EvSs X W [] sSkip := PSs.imp pss_nil fun D σ H ⟨ρ, τ, st, r0, en, o⟩ => o.next r0 en
theorem es_pass : EvS X W (.Pass pos) sSkip := PS.imp ps_pass fun D σ H ⟨ρ, τ, st, r0, en, o⟩ => o.next r0 en
theorem es_brk : EvS X W (.Break pos) sBrk := PS.imp ps_break fun D σ H ⟨ρ, τ, st, r0, en, o⟩ => o ρ H σ .refl r0 en
theorem es_cnt : EvS X W (.Continue pos) sCnt := PS.imp ps_continue fun D σ H ⟨ρ, τ, st, r0, en, o⟩ => o ρ H σ .refl r0 en
theorem es_no : EvS X W s sNo := PS.imp ps_never fun D σ H ⟨ρ, τ, st, r0, en, o⟩ => o
theorem es_one (h : EvS X W s u) : EvSs X W [s] u := pss_one h
theorem es_cons (h : EvS X W s u) (h2 : EvSs X W ss v) : EvSs X W (s :: ss) (sSeq u v) := PSs.imp (pss_cons h h2) fun D σ H ⟨ρ, τ, st, r0, en, o⟩ => by
  refine ⟨ρ, τ, st, r0, en, ?_⟩
  unfold sSeq at o
  cases q : u τ st with
  | no => rw [q] at o; exact o
  | nx a b => rw [q] at o; exact fun ρ' H' σ' e r en' => ⟨ρ', a, b, r, en', OutS.shift o r0 e r⟩
  | rt a b => rw [q] at o; exact o
  | bk a b => rw [q] at o; exact o
  | ct a b => rw [q] at o; exact o
  | er x a b => rw [q] at o; exact o
theorem es_expr (h : EvE X W e m) (hs : swapsWith e none pos.line X.env = pure false := by rfl) : EvS X W (.Expr e pos) (sExpr m) := PS.imp (ps_expr h hs) fun D σ H ⟨ρ, τ, st, r0, en, o⟩ =>
  tM.goS r0 en o fun d st1 ρ1 H1 v e1 r1 en1 q o1 => o1.next r1 en1
theorem es_ret (h : EvE X W e m) : EvS X W (.Return (some e) pos) (sRet m) := PS.imp (ps_ret h) fun D σ H ⟨ρ, τ, st, r0, en, o⟩ =>
  tM.goS r0 en o fun d st1 ρ1 H1 v e1 r1 en1 q o1 => o1 ρ1 H1 v .refl r1 q
theorem es_retN : EvS X W (.Return none pos) sRetN := PS.imp ps_retN fun D σ H ⟨ρ, τ, st, r0, en, o⟩ => o ρ H .non .refl r0 (by simp [RelD])
theorem es_if (h : EvB X W c t) (ha : EvSs X W ss u) (hb : EvSs X W bs v) : EvS X W (.If c ss bs pos) (sIf t u v) := PS.imp (ps_if h ha hb) fun D σ H ⟨ρ, τ, st, r0, en, o⟩ =>
  tM.goS r0 en o fun k st1 ρ1 H1 k' e1 r1 en1 q o1 => by
    cases (show k = k' from q)
    cases k with
    | true => exact ⟨ρ1, τ, st1, r1, en1, o1⟩
    | false => exact ⟨ρ1, τ, st1, r1, en1, o1⟩
theorem es_set (i : Nat) {x : Str} {pos' : Pos} (hN : X.N.Nodup) (he : EvE X W e m) (hi : X.N[i]? = some x := by rfl) (hx : Loc X.env.scope x := by first | exact Or.inl rfl | exact Or.inr rfl) (hs : swapsWith e (some (.Name x pos')) pos.line X.env = pure false := by rfl)
    (hf : X.fn x = true ∨ X.env.scope.names.lookup x = some .local := by first | exact .inl rfl | exact .inr rfl | assumption) : EvS X W (.Assign [.Name x pos'] e pos) (sSet i m) :=
  PS.imp (ps_set hN hi hx he hs hf) fun D σ H ⟨ρ, τ, st, r0, en, o⟩ => tM.goS r0 en o fun d st1 ρ1 H1 v e1 r1 en1 q o1 => o1.next r1 (en1.set q i)

/-! ### targets of names -/
abbrev SG := D → En → Option En
def tG (K : PySem.W.Frag) (vs : List Nat) (g : SG) : TG := fun v σ H Q => ∃ (ρ : Mp) (τ : En) (st : Store) (d : D), R K ρ st H ∧ EnvR K ρ st.length H τ σ ∧ RelD K ρ st.length H d v ∧
  match g d τ with
  | none => False
  | some τ' => ∀ σ', EnvR K ρ st.length H τ' σ' → wipe σ' vs = wipe σ vs → Q σ' H
def tGs (K : PySem.W.Frag) (vs : List Nat) (g : List D → En → Option En) : TGs := fun us σ H Q => ∃ (ρ : Mp) (τ : En) (st : Store) (ds : List D), R K ρ st H ∧ EnvR K ρ st.length H τ σ ∧ RelDs K ρ st.length H ds us ∧
  match g ds τ with
  | none => False
  | some τ' => ∀ σ', EnvR K ρ st.length H τ' σ' → wipe σ' vs = wipe σ vs → Q σ' H
abbrev EvG (X : Cx) (vs : List Nat) (tg : Expr) (g : SG) : Prop := PG X tg (tG X.K vs g)
abbrev EvGs (X : Cx) (vs : List Nat) (tgs : List Expr) (g : List D → En → Option En) : Prop := PGs X tgs (tGs X.K vs g)
theorem PG.imp {X : Cx} {e : Expr} {t t' : TG} (h : PG X e t) (hi : ∀ v σ H Q, t' v σ H Q → t v σ H Q) : PG X e t' := ⟨fun pins s σ H v u Q I r q => h.run pins s σ H v u Q I r (hi _ _ _ _ q)⟩
theorem PGs.imp {X : Cx} {e : List Expr} {t t' : TGs} (h : PGs X e t) (hi : ∀ v σ H Q, t' v σ H Q → t v σ H Q) : PGs X e t' := ⟨fun pins s σ H v u Q I r q => h.run pins s σ H v u Q I r (hi _ _ _ _ q)⟩
theorem wipe_get {σ : St} {j : Nat} : ∀ {vs : List Nat}, (wipe σ vs)[j]? = if j ∈ vs then (σ[j]?).map (fun _ => none) else σ[j]?
  | [] => by simp [wipe]
  | v :: vs => by
    show ((wipe σ vs).set v none)[j]? = _
    rw [List.getElem?_set]
    by_cases hj : v = j
    · subst hj
      rw [if_pos rfl, if_pos List.mem_cons_self, wipe_length]
      split
      · rw [List.getElem?_eq_getElem (by assumption)]; rfl
      · rw [List.getElem?_eq_none (by omega)]; rfl
    · rw [if_neg hj, wipe_get]
      have : (j ∈ v :: vs) = (j ∈ vs) := by simp [Ne.symm hj]
      simp only [this]
theorem wipe_set {σ : St} {i : Nat} {x : Option V} {vs : List Nat} (h : i ∈ vs) : wipe (σ.set i x) vs = wipe σ vs := by
  refine List.ext_getElem? fun j => ?_
  rw [wipe_get, wipe_get, List.getElem?_set]
  by_cases hj : j ∈ vs
  · rw [if_pos hj, if_pos hj]
    split
    · subst i
      split
      · rw [List.getElem?_eq_getElem (by assumption)]; rfl
      · rw [List.getElem?_eq_none (by omega)]
    · rfl
  · rw [if_neg hj, if_neg hj, if_neg (show ¬ i = j from fun z => hj (z ▸ h))]
theorem wipe_wipe {σ : St} {vs : List Nat} : wipe (wipe σ vs) vs = wipe σ vs := by
  refine List.ext_getElem? fun j => ?_
  rw [wipe_get]
  by_cases hj : j ∈ vs
  · rw [if_pos hj, wipe_get, if_pos hj]
    cases σ[j]? <;> rfl
  · rw [if_neg hj]
def gN (i : Nat) : SG := fun d τ => some (τ.set i (some d))
theorem eg_name {vs : List Nat} (i : Nat) {x : Str} (hN : X.N.Nodup) (hv : i ∈ vs := by decide) (hi : X.N[i]? = some x := by rfl) (hx : Loc X.env.scope x := by first | exact Or.inl rfl | exact Or.inr rfl) (hf : X.fn x = true ∨ X.env.scope.names.lookup x = some .local := by first | exact .inl rfl | exact .inr rfl | assumption) :
    EvG X vs (.Name x pos) (gN i) := PG.imp (pg_name hN hi hx hf) fun v σ H Q ⟨ρ, τ, st, d, r, en, rd, q⟩ => q _ (en.set rd i) (wipe_set hv)
def gsNil : List D → En → Option En := fun ds τ => match ds with
  | [] => some τ
  | _ => none
def gsCons (g : SG) (gs : List D → En → Option En) : List D → En → Option En := fun ds τ => match ds with
  | d :: r => (g d τ).bind (gs r)
  | [] => none
theorem egs_nil {vs : List Nat} : EvGs X vs [] gsNil := PGs.imp pgs_nil fun us σ H Q ⟨ρ, τ, st, ds, r, en, rd, q⟩ => by
  cases ds with
  | nil => exact ⟨rd.nil_eq, q σ en rfl⟩
  | cons d r => exact q.elim
theorem egs_cons {vs : List Nat} {g : SG} {gs : List D → En → Option En} (h : EvG X vs e g) (h2 : EvGs X vs es gs) (hs : (assignEach (e :: es) X.env).map (·.2) = assign e X.env :: (assignEach es X.env).map (·.2) := by rfl) : EvGs X vs (e :: es) (gsCons g gs) :=
  PGs.imp (pgs_cons h h2 hs) fun us σ H Q ⟨ρ, τ, st, ds, r, en, rd, q⟩ => by
    cases ds with
    | nil => exact q.elim
    | cons d ds =>
      obtain ⟨v, w, rfl, r1, r2⟩ := rd.cases
      refine ⟨v, w, rfl, ρ, τ, st, d, r, en, r1, ?_⟩
      simp only [gsCons] at q
      cases e1 : g d τ with
      | none => rw [e1] at q; exact q
      | some τ1 =>
        rw [e1] at q
        simp only [Option.bind_some] at q
        intro σ1 en1 w1
        refine ⟨ρ, τ1, st, ds, r, en1, r2, ?_⟩
        cases e2 : gs ds τ1 with
        | none => rw [e2] at q; exact q
        | some τ2 =>
          rw [e2] at q
          exact fun σ2 en2 w2 => q σ2 en2 (w2.trans w1)
def gT (gs : List D → En → Option En) : SG := fun d τ => match d with
  | .tup ds => gs ds τ
  | _ => none
def LenG (gs : List D → En → Option En) (k : Nat) : Prop := ∀ ds τ τ', gs ds τ = some τ' → ds.length = k
theorem lenG_nil : LenG gsNil 0 := fun ds τ τ' h => by cases ds with
  | nil => rfl
  | cons d r => exact absurd h (by simp [gsNil])
theorem lenG_cons {g : SG} {gs : List D → En → Option En} {k : Nat} (h : LenG gs k) : LenG (gsCons g gs) (k + 1) := fun ds τ τ' q => by
  cases ds with
  | nil => exact absurd q (by simp [gsCons])
  | cons d r =>
    simp only [gsCons] at q
    cases e : g d τ with
    | none => rw [e] at q; exact absurd q (by simp)
    | some τ1 => rw [e] at q; simp only [Option.bind_some] at q; simp [h _ _ _ q]
theorem eg_tup {vs : List Nat} {k n : Nat} {gs : List D → En → Option En} (hc : X.calm = true) (h : EvGs X vs es gs) (hl : LenG gs n) (hn : (assignEach es X.env).length = n := by rfl) (hst : (assignEach es X.env).findIdx? (·.1) = none := by rfl) :
    EvG X vs (.Tuple es k pos) (gT gs) := PG.imp (pg_tup hc h hn hst) fun v σ H Q ⟨ρ, τ, st, d, r, en, rd, q⟩ => by
  cases d with
  | tup ds =>
    simp only [RelD] at rd
    obtain ⟨a, us, rfl, hs, rs⟩ := rd
    refine ⟨a, us, rfl, SqT.of hs, ?_, ρ, τ, st, ds, r, en, rs, q⟩
    rw [rs.len]
    simp only [gT] at q
    cases e : gs ds τ with
    | none => rw [e] at q; exact q.elim
    | some τ' => exact hl _ _ _ e
  | _ => exact q.elim
/-- x, y = e -/
def sAsg (g : SG) (m : SE) : SS := fun τ st => (m τ st).go τ fun d st1 => match g d τ with
  | some τ' => .nx τ' st1
  | none => .no
theorem es_asg {tg : Expr} {vs : List Nat} {g : SG} (he : EvE X W e m) (hg : EvG X vs tg g) (hs : swapsWithSole [tg] e pos.line X.env = pure false := by rfl) (hw : swappedStores [tg] e X.env = pure none := by rfl)
    (h1 : (assignEach [tg] X.env).map (·.2) = [assign tg X.env] := by rfl) : EvS X W (.Assign [tg] e pos) (sAsg g m) :=
  PS.imp (ps_asg he hg hs hw h1) fun D σ H ⟨ρ, τ, st, r0, en, o⟩ => tM.goS r0 en o fun d st1 ρ1 H1 v e1 r1 en1 q o1 => by
    refine ⟨ρ1, τ, st1, d, r1, en1, q, ?_⟩
    cases e2 : g d τ with
    | none => rw [e2] at o1; exact o1
    | some τ' => rw [e2] at o1; exact fun σ' en' _ => o1.next r1 en'
/-- x, y = a, b -/
def sPar (i j : Nat) (ma mb : SE) : SS := fun τ st => (ma τ st).go τ fun d st1 => (mb τ st1).go τ fun d2 st2 => .nx ((τ.set i (some d)).set j (some d2)) st2
theorem es_par (i j : Nat) {x y : Str} {px py pt : Pos} {kt k2 pt2} (hc : X.calm = true) (hN : X.N.Nodup) (ha : EvE X W a ma) (hb : EvE X W b mb) (hi : X.N[i]? = some x := by rfl) (hj : X.N[j]? = some y := by rfl) (hij : i ≠ j := by decide)
    (hx : X.env.scope.names.lookup x = some .local := by rfl) (hy : X.env.scope.names.lookup y = some .local := by rfl)
    (hw : swappedStores [.Tuple [.Name x px, .Name y py] kt pt] (.Tuple [a, b] k2 pt2) X.env = pure (some [x, y]) := by rfl)
    (hs : swapsWithSole [.Tuple [.Name x px, .Name y py] kt pt] (.Tuple [a, b] k2 pt2) pos.line X.env = pure false := by rfl)
    (s1 : starEach (a :: [b]) X.env = (false, eval a X.env) :: starEach [b] X.env := by rfl) (s2 : starEach (b :: []) X.env = (false, eval b X.env) :: starEach [] X.env := by rfl) :
    EvS X W (.Assign [.Tuple [.Name x px, .Name y py] kt pt] (.Tuple [a, b] k2 pt2) pos) (sPar i j ma mb) :=
  PS.imp (ps_par hc hN hi hj hij hx hy (pa_cons ha (pa_cons hb pa_nil s2) s1) hw hs) fun D σ H ⟨ρ, τ, st, r0, en, o⟩ => tM.goS r0 en o fun d st1 ρ1 H1 v e1 r1 en1 q o1 =>
    tM.goS r1 en1 o1 fun d2 st2 ρ2 H2 v2 e2 r2 en2 q2 o2 => ⟨v, v2, rfl, o2.next r2 ((en2.set (q.mono e2 r1) i).set q2 j)⟩
def sPar3 (i j l : Nat) (ma mb mc : SE) : SS := fun τ st => (ma τ st).go τ fun d st1 => (mb τ st1).go τ fun d2 st2 => (mc τ st2).go τ fun d3 st3 => .nx (((τ.set i (some d)).set j (some d2)).set l (some d3)) st3
theorem es_par3 (i j l : Nat) {x y z : Str} {px py pz pt : Pos} {kt k2 pt2} (hc : X.calm = true) (hN : X.N.Nodup) (ha : EvE X W a ma) (hb : EvE X W b mb) (hcc : EvE X W c mc) (hi : X.N[i]? = some x := by rfl) (hj : X.N[j]? = some y := by rfl) (hl : X.N[l]? = some z := by rfl)
    (hij : i ≠ j := by decide) (hil : i ≠ l := by decide) (hjl : j ≠ l := by decide)
    (hx : X.env.scope.names.lookup x = some .local := by rfl) (hy : X.env.scope.names.lookup y = some .local := by rfl) (hz : X.env.scope.names.lookup z = some .local := by rfl)
    (hw : swappedStores [.Tuple [.Name x px, .Name y py, .Name z pz] kt pt] (.Tuple [a, b, c] k2 pt2) X.env = pure (some [x, y, z]) := by rfl)
    (hs : swapsWithSole [.Tuple [.Name x px, .Name y py, .Name z pz] kt pt] (.Tuple [a, b, c] k2 pt2) pos.line X.env = pure false := by rfl)
    (s1 : starEach (a :: [b, c]) X.env = (false, eval a X.env) :: starEach [b, c] X.env := by rfl) (s2 : starEach (b :: [c]) X.env = (false, eval b X.env) :: starEach [c] X.env := by rfl) (s3 : starEach (c :: []) X.env = (false, eval c X.env) :: starEach [] X.env := by rfl) :
    EvS X W (.Assign [.Tuple [.Name x px, .Name y py, .Name z pz] kt pt] (.Tuple [a, b, c] k2 pt2) pos) (sPar3 i j l ma mb mc) :=
  PS.imp (ps_par3 hc hN hi hj hl hij hil hjl hx hy hz (pa_cons ha (pa_cons hb (pa_cons hcc pa_nil s3) s2) s1) hw hs) fun D σ H ⟨ρ, τ, st, r0, en, o⟩ => tM.goS r0 en o fun d st1 ρ1 H1 v e1 r1 en1 q o1 =>
    tM.goS r1 en1 o1 fun d2 st2 ρ2 H2 v2 e2 r2 en2 q2 o2 => tM.goS r2 en2 o2 fun d3 st3 ρ3 H3 v3 e3 r3 en3 q3 o3 =>
      ⟨v, v2, v3, rfl, o3.next r3 (((en3.set ((q.mono e2 r1).mono e3 r2) i).set (q2.mono e3 r2) j).set q3 l)⟩

/-! ### while -/
def whileN (t : SB) (b : SS) : Nat → SS
  | 0 => fun _ _ => .no
  | k + 1 => fun τ st => (t τ st).go τ fun c st1 => if c = true then (b τ st1).loop (whileN t b k) else .nx τ st1
theorem whileN_succ {t : SB} {b : SS} {r : Rt} (hr : r ≠ .no) : ∀ {k : Nat} {τ : En} {st : Store}, whileN t b k τ st = r → whileN t b (k + 1) τ st = r
  | 0, τ, st, h => absurd h (fun z => hr z.symm)
  | k + 1, τ, st, h => by
    have h' : ((t τ st).go τ fun c st1 => if c = true then (b τ st1).loop (whileN t b k) else .nx τ st1) = r := h
    show ((t τ st).go τ fun c st1 => if c = true then (b τ st1).loop (whileN t b (k + 1)) else .nx τ st1) = r
    cases e : t τ st with
    | no => rw [e] at h'; exact h'
    | er x s => rw [e] at h'; exact h'
    | ok c st1 =>
      rw [e] at h'
      simp only [Rs.go_ok] at h' ⊢
      cases c with
      | false => exact h'
      | true =>
        simp only [if_true] at h' ⊢
        cases e2 : b τ st1 with
        | nx a s => rw [e2] at h'; exact whileN_succ hr (k := k) h'
        | ct a s => rw [e2] at h'; exact whileN_succ hr (k := k) h'
        | no => rw [e2] at h'; exact h'
        | bk a s => rw [e2] at h'; exact h'
        | rt a s => rw [e2] at h'; exact h'
        | er x a s => rw [e2] at h'; exact h'
theorem whileN_le {t : SB} {b : SS} {r : Rt} (hr : r ≠ .no) {k j : Nat} (h : k ≤ j) {τ : En} {st : Store} (e : whileN t b k τ st = r) : whileN t b j τ st = r := by
  induction h with
  | refl => exact e
  | step _ ih => exact whileN_succ hr ih
open Classical in
noncomputable def sWhile (t : SB) (b : SS) : SS := fun τ st => if h : ∃ k, whileN t b k τ st ≠ .no then whileN t b h.choose τ st else .no
theorem sWhile_of {t : SB} {b : SS} {r : Rt} {k : Nat} {τ : En} {st : Store} (hr : r ≠ .no) (e : whileN t b k τ st = r) : sWhile t b τ st = r := by
  have h : ∃ k, whileN t b k τ st ≠ .no := ⟨k, by rw [e]; exact hr⟩
  unfold sWhile
  rw [dif_pos h]
  have h1 := h.choose_spec
  by_cases hk : k ≤ h.choose
  · exact whileN_le hr hk e
  · exact ((whileN_le h1 (Nat.le_of_lt (Nat.lt_of_not_le hk)) rfl).symm.trans e)
theorem sWhile_ex {t : SB} {b : SS} {τ : En} {st : Store} (h : sWhile t b τ st ≠ .no) : ∃ k, whileN t b k τ st = sWhile t b τ st := by
  unfold sWhile at h ⊢
  split
  · exact ⟨_, rfl⟩
  · rename_i hn; rw [dif_neg hn] at h; exact absurd rfl h
/-- one turn of a while -/
theorem sWhile_eq (t : SB) (b : SS) (τ : En) (st : Store) : sWhile t b τ st = (t τ st).go τ fun c st1 => if c = true then (b τ st1).loop (sWhile t b) else .nx τ st1 := by
  have key : ∀ {τ' : En} {st' : Store}, sWhile t b τ' st' ≠ .no → ∃ k, whileN t b k τ' st' = sWhile t b τ' st' := sWhile_ex
  by_cases hr : ((t τ st).go τ fun c st1 => if c = true then (b τ st1).loop (sWhile t b) else .nx τ st1) = .no
  · rw [hr]
    cases q : sWhile t b τ st with
    | no => rfl
    | _ =>
      exfalso
      obtain ⟨k, hk⟩ := key (τ' := τ) (st' := st) (by rw [q]; intro z; cases z)
      rw [q] at hk
      cases k with
      | zero => cases hk
      | succ k =>
        have hk' : ((t τ st).go τ fun c st1 => if c = true then (b τ st1).loop (whileN t b k) else .nx τ st1) = _ := hk
        cases e : t τ st with
        | no => rw [e] at hk'; cases hk'
        | er x s => rw [e] at hr; cases hr
        | ok c st1 =>
          rw [e] at hk' hr
          simp only [Rs.go_ok] at hk' hr
          cases c with
          | false => simp at hr
          | true =>
            simp only [if_true] at hk' hr
            cases e2 : b τ st1 with
            | nx a s => rw [e2] at hk' hr; simp only [Rt.loop_nx] at hk' hr; rw [sWhile_of (by intro z; cases z) hk'] at hr; cases hr
            | ct a s => rw [e2] at hk' hr; simp only [Rt.loop_ct] at hk' hr; rw [sWhile_of (by intro z; cases z) hk'] at hr; cases hr
            | no => rw [e2] at hk'; cases hk'
            | bk a s => rw [e2] at hr; cases hr
            | rt a s => rw [e2] at hr; cases hr
            | er x a s => rw [e2] at hr; cases hr
  · cases e : t τ st with
    | no => rw [e] at hr; exact absurd rfl hr
    | er x s => exact sWhile_of (k := 1) (by simp) (by simp [whileN, e])
    | ok c st1 =>
      rw [e] at hr
      simp only [Rs.go_ok] at hr ⊢
      cases c with
      | false => exact sWhile_of (k := 1) (by simp) (by simp [whileN, e])
      | true =>
        simp only [if_true] at hr ⊢
        cases e2 : b τ st1 with
        | nx a s =>
          rw [e2] at hr
          obtain ⟨k, hk⟩ := key hr
          exact sWhile_of (k := k + 1) hr (by simp only [whileN, e, Rs.go_ok, if_true, e2]; exact hk)
        | ct a s =>
          rw [e2] at hr
          obtain ⟨k, hk⟩ := key hr
          exact sWhile_of (k := k + 1) hr (by simp only [whileN, e, Rs.go_ok, if_true, e2]; exact hk)
        | no => rw [e2] at hr; exact absurd rfl hr
        | bk a s => exact sWhile_of (k := 1) (by simp) (by simp [whileN, e, e2])
        | rt a s => exact sWhile_of (k := 1) (by simp) (by simp [whileN, e, e2])
        | er x a s => exact sWhile_of (k := 1) (by simp) (by simp [whileN, e, e2])
theorem es_while (hp : PassesOwn (model X.prog X.w) X.A X.env X.xe) (hc : EvB X W c t) (hb : EvSs X W ss u) : EvS X W (.While c ss [] pos) (sWhile t u) := PS.imp (ps_while hp hc hb) fun D σ H ⟨ρ, τ, st, r0, en, o⟩ => by
  have hn : sWhile t u τ st ≠ .no := fun z => by rw [z] at o; exact o
  obtain ⟨k, hk⟩ := sWhile_ex hn
  rw [← hk] at o
  refine ⟨fun m σ H => ∃ ρ τ st, R X.K ρ st H ∧ EnvR X.K ρ st.length H τ σ ∧ OutS X.K W ρ st.length H D (whileN t u m τ st), ⟨k, ρ, τ, st, r0, en, o⟩, fun m σ H ⟨ρ, τ, st, r0, en, o⟩ => ?_⟩
  cases m with
  | zero => exact o.elim
  | succ m =>
    refine tM.goS (Ra := reB) r0 en o fun c st1 ρ1 H1 c' e1 r1 en1 q o1 => ?_
    cases (show c = c' from q)
    cases c with
    | false => exact o1.next r1 en1
    | true =>
      simp only [if_true] at o1 ⊢
      refine ⟨fun σ H => ∃ ρ τ st, R X.K ρ st H ∧ EnvR X.K ρ st.length H τ σ ∧ OutS X.K W ρ st.length H D (whileN t u m τ st), fun σ' H' h => ⟨m, Nat.lt_succ_self m, h⟩, ρ1, τ, st1, r1, en1, ?_⟩
      cases e2 : u τ st1 with
      | nx a s => rw [e2] at o1; exact fun ρ' H' σ' e' r' en' => ⟨ρ', a, s, r', en', OutS.shift o1 r1 e' r'⟩
      | ct a s => rw [e2] at o1; exact fun ρ' H' σ' e' r' en' => ⟨ρ', a, s, r', en', OutS.shift o1 r1 e' r'⟩
      | no => rw [e2] at o1; exact o1
      | bk a s => rw [e2] at o1; exact o1
      | rt a s => rw [e2] at o1; exact o1
      | er x a s => rw [e2] at o1; exact o1
end
end Fx

set_option Elab.async false
set_option linter.all false
set_option maxRecDepth 100000
set_option maxHeartbeats 4000000
namespace Fx
open PySem L2

/-! ### what is walked -/
def ItR (K : PySem.W.Frag) (ρ : Mp) (st : Store) (H : Hp) (J : It) (ds : List D) : Prop :=
  ∀ (ρ2 : Mp) (st2 : Store) (H2 : Hp), ExtW ρ st.length H ρ2 st2.length H2 → R K ρ2 st2 H2 → ∀ i : Nat,
    (∀ d, ds[i]? = some d → J.go i H2 ∧ ∀ x H3, J.yld i H2 x H3 → Ext ρ2 st2.length H2 ρ2 st2.length H3 ∧ R K ρ2 st2 H3 ∧ RelD K ρ2 st2.length H3 d x) ∧
    (ds.length ≤ i → J.stop i H2)
abbrev reI (K : PySem.W.Frag) : Rl (List D) It := fun _ ρ st H ds J => ItR K ρ st H J ds
instance {K : PySem.W.Frag} : RlOk K (reI K) := ⟨fun _ _ h => h⟩
abbrev EvI (X : Cx) (W : WX) (tg iter : Expr) (m : SA) : Prop := PI X tg iter (tM X.K (reI X.K) W m)
theorem PI.imp {X : Cx} {tg e : Expr} {t t' : TI} (h : PI X tg e t) (hi : ∀ σ H Q, t' σ H Q → t σ H Q) : PI X tg e t' := ⟨fun pins s σ H Q I q => h.run pins s σ H Q I (hi _ _ _ q)⟩

section
variable {K : PySem.W.Frag} {ρ : Mp} {st : Store} {H : Hp} {ds : List D}
theorem itR_list {a : Addr} {vs : List V} (h : LstAt K H ρ st.length a vs) (rv : RelDs K ρ st.length H ds vs) (r : R K ρ st H) : ItR K ρ st H (Itl K a) ds := fun ρ2 st2 H2 e r2 i => by
  have h2 : SqL K H2 a vs := (e.lstAt h).sq
  refine ⟨fun d hd => ?_, fun hl => ⟨vs, h2, by rw [rv.len]; exact hl⟩⟩
  obtain ⟨v, hv, rd⟩ := rv.get hd
  refine ⟨⟨vs, v, h2, hv⟩, fun x H3 ⟨e3, q⟩ => ?_⟩
  subst e3
  have q' := q vs h2
  rw [hv] at q'; cases q'
  exact ⟨.refl, r2, RelD.monoW e r _ rd⟩
theorem itR_tup {a : Addr} {vs : List V} (h : SqT K H a vs) (rv : RelDs K ρ st.length H ds vs) (r : R K ρ st H) : ItR K ρ st H (Itt K a) ds := fun ρ2 st2 H2 e r2 i => by
  have h2 : SqT K H2 a vs := e.sqT r h
  refine ⟨fun d hd => ?_, fun hl => ⟨vs, h2, by rw [rv.len]; exact hl⟩⟩
  obtain ⟨v, hv, rd⟩ := rv.get hd
  refine ⟨⟨vs, v, h2, hv⟩, fun x H3 ⟨e3, q⟩ => ?_⟩
  subst e3
  have q' := q vs h2
  rw [hv] at q'; cases q'
  exact ⟨.refl, r2, RelD.monoW e r _ rd⟩
/-- the ints lo, lo + 1, .. -/
def rangeD (lo hi : Int) : List D := (List.range (hi - lo).toNat).map fun i => .int (lo + (i : Nat))
theorem itR_range {lo hi : Int} : ItR K ρ st H (Itr lo (hi - lo).toNat) (rangeD lo hi) := fun ρ2 st2 H2 e r2 i => by
  refine ⟨fun d hd => ?_, fun hl => show (hi - lo).toNat ≤ i by simpa [rangeD] using hl⟩
  unfold rangeD at hd
  rw [List.getElem?_map] at hd
  cases q : (List.range (hi - lo).toNat)[i]? with
  | none => rw [q] at hd; cases hd
  | some j =>
    rw [q] at hd
    obtain ⟨h1, h2⟩ := List.getElem?_eq_some_iff.mp q
    rw [List.getElem_range] at h2
    subst h2
    cases hd
    refine ⟨show i < (hi - lo).toNat by simpa using h1, fun x H3 ⟨e3, ex⟩ => ?_⟩
    subst e3; subst ex
    exact ⟨.refl, r2, by simp [RelD]⟩
end

section
variable {X : Cx} {W : WX} {e a b c tg iter : Expr} {es ifs : List Expr} {s : Stmt} {ss bs : List Stmt} {m ma mb mc : SE} {ms mi : SA} {t : SB} {u v w : SS} {pos : Pos}
/-- the value's items: a tuple, or a list that is only read -/
def itemsOf (r : Rs D) : Rs (List D) := r.bind fun d st => match d with
  | .tup ds => .ok ds st
  | .lst ds => .ok ds st
  | _ => .no
def mItems (m : SE) : SA := fun σ st => itemsOf (m σ st)
theorem ei_seq (h : EvE X W e m) : EvI X W tg e (mItems m) := by
  refine ⟨fun pins s σ H Rr I q => ?_⟩
  obtain ⟨ρ, τ, st, r0, en, o⟩ := q
  refine thn (h.run pins s σ H (fun x H1 => ∃ a, x = .ref a ∧ (((∃ vs, SqL X.K H1 a vs ∧ ∃ ρ1 st1 ds, R X.K ρ1 st1 H1 ∧ LstAt X.K H1 ρ1 st1.length a vs ∧ RelDs X.K ρ1 st1.length H1 ds vs ∧ Out X.K (reI X.K) W σ ρ1 st1.length H1 Rr (.ok ds st1))) ∨ (∃ vs, SqT X.K H1 a vs ∧ ∃ ρ1 st1 ds, R X.K ρ1 st1 H1 ∧ RelDs X.K ρ1 st1.length H1 ds vs ∧ Out X.K (reI X.K) W σ ρ1 st1.length H1 Rr (.ok ds st1)))) I ?_) fun v s1 ⟨x, H1, I1, r1, q1⟩ => ?_
  · refine tM.bind r0 en o fun d st1 ρ1 H1 v e1 r1 en1 q o1 => ?_
    cases d with
    | tup ds =>
      simp only [RelD] at q
      obtain ⟨a, vs, rfl, hs, rv⟩ := q
      exact ⟨a, rfl, .inr ⟨vs, SqT.of hs, ρ1, st1, ds, r1, rv, o1⟩⟩
    | lst ds =>
      simp only [RelD] at q
      obtain ⟨a, vs, rfl, hs, rv⟩ := q
      exact ⟨a, rfl, .inl ⟨vs, hs.sq, ρ1, st1, ds, r1, hs, rv, o1⟩⟩
    | _ => exact o1.elim
  · obtain ⟨a, e, q⟩ := q1
    subst e
    cases r1
    rcases q with ⟨vs, hq, ρ1, st1, ds, rr, hl, rv, o1⟩ | ⟨vs, hq, ρ1, st1, ds, rr, rv, o1⟩
    · obtain ⟨its, rw', p, hz⟩ := I1.list hq
      refine wpAny_pyIter_list p.isList ?_
      refine ⟨s1.heap.objs.size, [s1.heap.objs.size], _, Itl X.K a, H1, rfl, I1.kept (t' := s1.toks) fun b o e => Heap.get?_push_of_some _ e, turn_list a _, ⟨_, Heap.get?_push_size _ rfl, rfl, rfl⟩, fun b hb => ?_, o1 ρ1 H1 _ .refl rr ?_⟩
      · have e : b = s1.heap.objs.size := by simpa using hb
        subst e
        exact I1.fpOk (Nat.le_refl _) (I1.hok.fresh (Nat.le_refl _))
      · exact itR_list hl rv rr
    · obtain ⟨its, rw', p, hz⟩ := I1.tuple hq
      refine wpAny_pyIter_tuple (show s1.heap.IsTuple a its.toArray from p) ?_
      refine ⟨s1.heap.objs.size, [s1.heap.objs.size], _, Itt X.K a, H1, rfl, I1.kept (t' := s1.toks) fun b o e => Heap.get?_push_of_some _ e, turn_tuple a _, ⟨_, Heap.get?_push_size _ rfl, rfl, rfl⟩, fun b hb => ?_, o1 ρ1 H1 _ .refl rr (itR_tup hq rv rr)⟩
      have e : b = s1.heap.objs.size := by simpa using hb
      subst e
      exact I1.fpOk (Nat.le_refl _) (I1.hok.fresh (Nat.le_refl _))
/-- range(n), range(a, b) -/
noncomputable def rng1 (r : Rs (List D)) : Rs (List D) := r.bind fun ds st => match ds with
  | [.int j] => if j < 2 ^ 62 then .ok (rangeD 0 j) st else .no
  | _ => .no
noncomputable def rng2 (r : Rs (List D)) : Rs (List D) := r.bind fun ds st => match ds with
  | [.int i, .int j] => if w62 i = true ∧ w62 j = true then .ok (rangeD i j) st else .no
  | _ => .no
noncomputable def mRng1 (m : SE) : SA := fun σ st => (m σ st).bind fun d st1 => match d with
  | .int j => if w62 j = true then .ok (rangeD 0 j) st1 else .no
  | _ => .no
noncomputable def mRng2 (ma mb : SE) : SA := fun σ st => (ma σ st).bind fun d st1 => (mb σ st1).bind fun d2 st2 => match d, d2 with
  | .int i, .int j => if w62 i = true ∧ w62 j = true then .ok (rangeD i j) st2 else .no
  | _, _ => .no
theorem ei_range1 {p pos : Pos} (hm : X.mg "range" = none) (ha : EvE X W a ma) (hg : Gl X "range" := by rfl) (hs1 : starEach (a :: []) X.env = (false, eval a X.env) :: starEach [] X.env := by rfl) (hs : starEach [a] X.env = [(false, eval a X.env)] := by rfl) :
    EvI X W tg (.Call (.Name "range" p) [a] [] pos) (mRng1 ma) := PI.imp (pi_range1 hg hm (pa_cons ha pa_nil hs1) hs) fun σ H Rr ⟨ρ, τ, st, r0, en, o⟩ =>
  tM.bind r0 en o fun d st1 ρ1 H1 v e1 r1 en1 q o1 => by
    cases d with
    | int j =>
      simp only [RelD] at q
      subst q
      simp only at o1
      split at o1
      · rename_i hj
        refine ⟨j, rfl, (w62_iff.mp hj).1, (w62_iff.mp hj).2, o1.here r1 ?_⟩
        have e : (j - 0).toNat = j.toNat := by omega
        have := itR_range (K := X.K) (ρ := ρ1) (st := st1) (H := H1) (lo := 0) (hi := j)
        rw [e] at this; exact this
      · exact o1.elim
    | _ => exact o1.elim
theorem ei_range2 {p pos : Pos} (hm : X.mg "range" = none) (ha : EvE X W a ma) (hb : EvE X W b mb) (hg : Gl X "range" := by rfl) (hs1 : starEach (b :: []) X.env = (false, eval b X.env) :: starEach [] X.env := by rfl) (hs0 : starEach (a :: [b]) X.env = (false, eval a X.env) :: starEach [b] X.env := by rfl)
    (hs : starEach [a, b] X.env = [(false, eval a X.env), (false, eval b X.env)] := by rfl) (hs2 : starEach [b] X.env = [(false, eval b X.env)] := by rfl) :
    EvI X W tg (.Call (.Name "range" p) [a, b] [] pos) (mRng2 ma mb) := PI.imp (pi_range2 hg hm (pa_cons ha (pa_cons hb pa_nil hs1) hs0) hs hs2) fun σ H Rr ⟨ρ, τ, st, r0, en, o⟩ =>
  tM.bind r0 en o fun d st1 ρ1 H1 v e1 r1 en1 q o1 => tM.bind r1 en1 o1 fun d2 st2 ρ2 H2 v2 e2 r2 en2 q2 o2 => by
    cases d with
    | int i =>
      cases d2 with
      | int j =>
        simp only [RelD] at q q2
        subst q; subst q2
        simp only at o2
        split at o2
        · rename_i hj
          exact ⟨i, j, rfl, ⟨(w62_iff.mp hj.1).1, (w62_iff.mp hj.1).2, (w62_iff.mp hj.2).1, (w62_iff.mp hj.2).2⟩, o2.here r2 itR_range⟩
        · exact o2.elim
      | _ => exact o2.elim
    | _ => exact o2.elim

/-! ### for -/
def forS (g : SG) (b : SS) : List D → SS
  | [], τ, st => .nx τ st
  | d :: ds, τ, st => match g d τ with
    | none => .no
    | some τ1 => (b τ1 st).loop (forS g b ds)
def sFor (mi : SA) (g : SG) (b : SS) : SS := fun τ st => (mi τ st).go τ fun ds st1 => forS g b ds τ st1
theorem es_for {vs : List Nat} {g : SG} (hp : PassesOwn (model X.prog X.w) X.A X.env X.xe) (hc : X.calm = true) (hi : EvI X W tg iter mi) (hg : EvG X vs tg g) (hb : EvSs X W ss u)
    (hs : ∀ x, foldedSetIterable iter X.env x = pure x := by intro _; rfl) : EvS X W (.For tg iter ss [] pos) (sFor mi g u) := PS.imp (ps_for hp hc hi hg hb hs) fun D σ H ⟨ρ, τ, st, r0, en, o⟩ =>
  tM.goS r0 en o fun ds st1 ρ1 H1 J e1 r1 en1 q o1 => by
    refine ⟨fun i m σ H => m = ds.length - i ∧ i ≤ ds.length ∧ ∃ ρ τ st, Ext ρ1 st1.length H1 ρ st.length H ∧ R X.K ρ st H ∧ EnvR X.K ρ st.length H τ σ ∧ OutS X.K W ρ st.length H D (forS g u (ds.drop i) τ st),
      ⟨_, rfl, Nat.zero_le _, ρ1, τ, st1, .refl, r1, en1, by rw [List.drop_zero]; exact o1⟩, fun i m σ H ⟨hm, hi, ρ, τ, st, ex, r, en, o⟩ => ?_⟩
    obtain ⟨go, stop⟩ := q ρ st H ex.w r i
    by_cases hl : i < ds.length
    · have hd : ds[i]? = some ds[i] := List.getElem?_eq_getElem hl
      obtain ⟨g1, g2⟩ := go _ hd
      refine .inr ⟨g1, fun σ H => (ds.length - (i + 1)) = ds.length - (i + 1) ∧ i + 1 ≤ ds.length ∧ ∃ ρ τ st, Ext ρ1 st1.length H1 ρ st.length H ∧ R X.K ρ st H ∧ EnvR X.K ρ st.length H τ σ ∧ OutS X.K W ρ st.length H D (forS g u (ds.drop (i + 1)) τ st),
        fun σ' H' h => ⟨ds.length - (i + 1), by omega, h⟩, fun x H3 hy => ?_⟩
      obtain ⟨e3, r3, rd⟩ := g2 x H3 hy
      rw [List.drop_eq_getElem_cons hl] at o
      simp only [forS] at o
      refine ⟨ρ, τ, st, _, r3, en.mono e3 r, rd, ?_⟩
      cases e2 : g ds[i] τ with
      | none => rw [e2] at o; exact o
      | some τ1 =>
        rw [e2] at o
        simp only at o
        intro σ1 en1' _
        refine ⟨ρ, τ1, st, r3, en1', ?_⟩
        have o' := OutS.shift o r e3 r3
        have ex3 := ex.trans r1 r e3
        cases e4 : u τ1 st with
        | nx a s => rw [e4] at o'; exact fun ρ' H' σ' e' r' en' => ⟨rfl, hl, ρ', a, s, ex3.trans r1 r3 e', r', en', OutS.shift o' r3 e' r'⟩
        | ct a s => rw [e4] at o'; exact fun ρ' H' σ' e' r' en' => ⟨rfl, hl, ρ', a, s, ex3.trans r1 r3 e', r', en', OutS.shift o' r3 e' r'⟩
        | no => rw [e4] at o'; exact o'
        | bk a s => rw [e4] at o'; exact o'
        | rt a s => rw [e4] at o'; exact o'
        | er x a s => rw [e4] at o'; exact o'
    · refine .inl ⟨stop (by omega), ?_⟩
      rw [List.drop_eq_nil_of_le (by omega)] at o
      exact o.next r en

/-! ### list comprehensions -/
def compS (g : SG) (t : SB) (m : SE) (vs : List Nat) : List D → En → Store → List D → Rs (List D)
  | [], _, st, acc => .ok acc st
  | d :: ds, τ, st, acc => match g d (wipeE τ vs) with
    | none => .no
    | some τ1 => match t τ1 st with
      | .ok true st1 => (match m τ1 st1 with
        | .ok y st2 => if acc.length < sizeLine then compS g t m vs ds τ st2 (acc ++ [y]) else .no
        | _ => .no)
      | .ok false st1 => compS g t m vs ds τ st1 acc
      | _ => .no
def mComp (mi : SA) (g : SG) (t : SB) (m : SE) (vs : List Nat) : SA := fun τ st => (mi τ st).bind fun ds st1 => compS g t m vs ds τ st1 []
def mYes : SB := fun _ st => .ok true st
abbrev W0 : WX := fun _ _ _ _ => False
abbrev EvT (X : Cx) (W : WX) (ifs : List Expr) (t : SB) : Prop := PTs X ifs (tM X.K reB W t)
theorem PTs.imp {X : Cx} {e : List Expr} {t t' : TT} (h : PTs X e t) (hi : ∀ σ H Q, t' σ H Q → t σ H Q) : PTs X e t' := ⟨fun pins s σ H Q I q => h.run pins s σ H Q I (hi _ _ _ q)⟩
theorem eif_nil : EvT X W [] mYes := PTs.imp pts_nil fun σ H Q ⟨ρ, τ, st, r, en, o⟩ => o.here r rfl
theorem eif_one (h : EvB X W c t) : EvT X W [c] t := pts_one h
section
variable {K : PySem.W.Frag} {ρ : Mp} {n : Nat} {H : Hp} {p : Addr}
mutual
theorem RelD.hw {u : HO} {us : List V} (hp : H p = some (.lst us)) : ∀ (d : D) {v : V}, RelD K (ρ.hide p) n H d v → RelD K (ρ.hide p) n (upd H p u) d v
  | .non, v, h => by simpa only [RelD] using h
  | .bl b, v, h => by simpa only [RelD] using h
  | .int b, v, h => by simpa only [RelD] using h
  | .str b, v, h => by simpa only [RelD] using h
  | .ty b, v, h => by simpa only [RelD] using h
  | .fn b, v, h => by simpa only [RelD] using h
  | .tup xs, v, h => by
    simp only [RelD] at h ⊢
    obtain ⟨a, vs, rfl, s, q⟩ := h
    exact ⟨a, vs, rfl, by rw [upd_ne (ne_of s hp (by intro z; cases z))]; exact s, RelDs.hw hp xs q⟩
  | .lst xs, v, h => by
    simp only [RelD] at h ⊢
    obtain ⟨a, vs, rfl, s, q⟩ := h
    refine ⟨a, vs, rfl, ?_, RelDs.hw hp xs q⟩
    rcases s with ⟨h, ni, nh⟩ | h
    · have ne : a ≠ p := fun z => nh (.inr z)
      rcases h with h | ⟨o, h⟩
      · exact .inl ⟨.inl (by rw [upd_ne ne]; exact h), ni, nh⟩
      · exact .inl ⟨.inr ⟨o, by rw [upd_ne ne]; exact h⟩, ni, nh⟩
    · exact .inr h
  | .loc i, v, h => by simpa only [RelD] using h
theorem RelDs.hw {u : HO} {us : List V} (hp : H p = some (.lst us)) : ∀ (ds : List D) {vs : List V}, RelDs K (ρ.hide p) n H ds vs → RelDs K (ρ.hide p) n (upd H p u) ds vs
  | [], vs, h => by simpa only [RelDs] using h
  | d :: ds, vs, h => by
    simp only [RelDs] at h ⊢
    obtain ⟨v, w, rfl, h1, h2⟩ := h
    exact ⟨v, w, rfl, RelD.hw hp d h1, RelDs.hw hp ds h2⟩
end
theorem R.hw {st : Store} {u : HO} {us : List V} (r : R K (ρ.hide p) st H) (hp : H p = some (.lst us)) (m : isMut u = true) : R K (ρ.hide p) st (upd H p u) := by
  refine ⟨fun i o h => ?_, r.inj, fun a h => ?_, r.sep⟩
  · have q := r.obj i o h
    have hl : i < st.length := (List.getElem?_eq_some_iff.mp h).1
    have ne : (ρ.hide p).at' i ≠ p := fun z => r.sep i hl (.inr z)
    have k : ∀ w, H ((ρ.hide p).at' i) = some w → upd H p u ((ρ.hide p).at' i) = some w := fun w hw => by rw [upd_ne ne]; exact hw
    revert q
    cases o with
    | lst ds => rintro ⟨vs, h, q⟩; exact ⟨vs, k _ h, RelDs.hw hp ds q⟩
    | dk ds => rintro ⟨vs, h, q⟩; exact ⟨vs, k _ h, Paired.monoP q fun p' q z => ⟨z.1, RelD.hw hp _ z.2⟩⟩
    | dt ds => rintro ⟨vs, h, q⟩; exact ⟨vs, k _ h, Paired.monoP q fun p' q z => ⟨z.1, RelD.hw hp _ z.2⟩⟩
  · by_cases e : a = p
    · subst e; exact ⟨u, upd_same, m⟩
    · obtain ⟨w, hw, mw⟩ := r.hid a h
      exact ⟨w, by rw [upd_ne e]; exact hw, mw⟩
theorem EnvR.hw {u : HO} {us : List V} {τ : En} {σ : St} (h : EnvR K (ρ.hide p) n H τ σ) (hp : H p = some (.lst us)) : EnvR K (ρ.hide p) n (upd H p u) τ σ :=
  ⟨h.1, fun i d q => let ⟨v, a, b⟩ := h.2 i d q; ⟨v, a, b.hw hp⟩⟩
theorem EnvR.hideN {u : HO} {τ : En} {σ : St} (h : EnvR K ρ n H τ σ) (hp : H p = none) : EnvR K (ρ.hide p) n (upd H p u) τ σ :=
  ⟨h.1, fun i d q => let ⟨v, a, b⟩ := h.2 i d q; ⟨v, a, b.hide hp⟩⟩
theorem _root_.Fx.Ext.hideW {ρ' : Mp} {n' : Nat} {H' : Hp} (e : Ext ρ n H ρ' n' H') (hp : H p = none) : ExtW ρ n H (ρ'.hide p) n' H' :=
  ⟨e.le, e.old, e.new, e.keep, fun a h => h.elim (fun z => .inl (by rw [← e.hid]; exact z)) fun z => .inr (z ▸ hp)⟩
theorem _root_.Fx.Ext.upd_new {ρ' : Mp} {n' : Nat} {H' : Hp} {u : HO} (e : Ext ρ n H ρ' n' H') (hp : H p = none) : Ext ρ n H ρ' n' (upd H' p u) :=
  ⟨e.le, e.old, e.new, fun a o h q => by rw [upd_ne (ne_of_none h hp)]; exact e.keep a o h q, e.hid⟩
/-- a map that hides what ρ.hide p hides is some map that hides p -/
theorem unhide {ρ' : Mp} (h : ρ'.hid = (ρ.hide p).hid) : ρ' = (Mp.mk ρ'.at' ρ.hid).hide p := by
  cases ρ' with
  | mk f g => cases (show g = (ρ.hide p).hid from h); rfl
end
theorem tM.lc {g : SG} {vs : List Nat} {σ : St} {H : Hp} {Q : VK} (h : tM X.K (reN X.K) W (mComp mi g t m vs) σ H Q) : tLc (tM X.K (reI X.K) W mi) (tG X.K vs g) (tM X.K reB W0 t) (tM X.K (reD X.K) W0 m) vs σ H Q := by
  obtain ⟨ρ, τ, st, r0, en, o⟩ := h
  -- the iterable; the start's heap is kept
  refine tM.bind (Ra := reI X.K) r0 en (show Out X.K (reN X.K) W σ ρ st.length H (fun v H' => Q v H') _ from o) fun ds st1 ρ1 H1 J e1 r1 en1 q o1 => ?_
  intro p hp
  have hpH : ∀ {x : Addr}, H1 x = none → H x = none := fun z => e1.none_of r1 z
  refine ⟨fun i k H' => k = ds.length - i ∧ i ≤ ds.length ∧ ∃ ρ' st' acc us, ρ'.hid = ρ1.hid ∧ Ext ρ1 st1.length H1 ρ' st'.length H' ∧ R X.K (ρ'.hide p) st' H' ∧ EnvR X.K (ρ'.hide p) st'.length H' τ σ ∧ H' p = some (.lst us) ∧
      RelDs X.K (ρ'.hide p) st'.length H' acc us ∧ Out X.K (reN X.K) W σ ρ1 st1.length H1 Q (compS g t m vs (ds.drop i) τ st' acc), ⟨_, rfl, Nat.zero_le _, ρ1, st1, [], [], rfl, r1.push_ext hp, r1.hide hp rfl, en1.hideN hp, upd_same, .nil, by rw [List.drop_zero]; exact o1⟩, fun i k H' ⟨hk, hi, ρ', st', acc, us, hh, ex, rr, en', hpu, ra, oo⟩ => ?_⟩
  have rs := R.show' rr
  obtain ⟨go, stop⟩ := q (ρ'.hide p) st' H' (ex.hideW hp) rr i
  by_cases hl : i < ds.length
  · have hd : ds[i]? = some ds[i] := List.getElem?_eq_getElem hl
    obtain ⟨g1, g2⟩ := go _ hd
    rw [List.drop_eq_getElem_cons hl] at oo
    simp only [compS] at oo
    refine .inr ⟨g1, fun H' => ∃ ρ' st' acc us, ρ'.hid = ρ1.hid ∧ Ext ρ1 st1.length H1 ρ' st'.length H' ∧ R X.K (ρ'.hide p) st' H' ∧ EnvR X.K (ρ'.hide p) st'.length H' τ σ ∧ H' p = some (.lst us) ∧
      RelDs X.K (ρ'.hide p) st'.length H' acc us ∧ Out X.K (reN X.K) W σ ρ1 st1.length H1 Q (compS g t m vs (ds.drop (i + 1)) τ st' acc), fun H2 h => ⟨ds.length - (i + 1), by omega, rfl, hl, h⟩, fun x H3 hy => ?_⟩
    obtain ⟨e3, r3, rd⟩ := g2 x H3 hy
    have en3 := (en'.mono e3 rr).wipe vs
    refine ⟨ρ'.hide p, wipeE τ vs, st', _, r3, en3, rd, ?_⟩
    cases q1 : g ds[i] (wipeE τ vs) with
    | none => rw [q1] at oo; exact oo
    | some τ1 =>
      rw [q1] at oo
      simp only at oo
      refine fun σ1 en4 w1 => ⟨w1.trans wipe_wipe, ρ'.hide p, τ1, st', r3, en4, ?_⟩
      have ra3 := RelDs.mono e3 rr acc ra
      -- the state for the next turn
      have nxt : ∀ {ρ4 : Mp} {st4 : Store} {H4 : Hp}, Ext (ρ'.hide p) st'.length H' ρ4 st4.length H4 → R X.K ρ4 st4 H4 → ∃ ρ5 : Mp, ρ5.hid = ρ1.hid ∧ ρ4 = ρ5.hide p ∧ Ext ρ1 st1.length H1 ρ5 st4.length H4 ∧ H4 p = some (.lst us) := fun {ρ4 st4 H4} e4 r4 => by
        have u := unhide (ρ := ρ') (p := p) e4.hid
        refine ⟨⟨ρ4.at', ρ'.hid⟩, hh, u, ex.trans r1 rs (st' := st') ?_, e4.keep p _ hpu fun i hi z => rr.sep i hi (.inr z)⟩
        exact ⟨e4.le, e4.old, e4.new, e4.keep, rfl⟩
      cases q2 : t τ1 st' with
      | no => rw [q2] at oo; exact oo.elim
      | er x s => rw [q2] at oo; exact oo.elim
      | ok b st2 =>
        rw [q2] at oo
        intro ρ4 H4 b' e4 r4 hb
        cases (show b = b' from hb)
        have e34 := e3.trans rr r3 e4
        obtain ⟨ρ5, h5, u5, ex5, hp5⟩ := nxt e34 r4
        have en5 : EnvR X.K ρ4 st2.length H4 τ σ := (en'.mono e34 rr)
        have ra5 := RelDs.mono e34 rr acc ra
        cases b with
        | false =>
          subst u5
          exact ⟨ρ5, st2, acc, us, h5, ex5, r4, en5, hp5, ra5, oo⟩
        | true =>
          simp only at oo
          refine ⟨ρ4, τ1, st2, r4, en4.mono e4 r3, ?_⟩
          cases q3 : m τ1 st2 with
          | no => rw [q3] at oo; exact oo.elim
          | er x s => rw [q3] at oo; exact oo.elim
          | ok y st6 =>
            rw [q3] at oo
            simp only at oo
            split at oo
            · rename_i hz
              intro ρ6 H6 vy e6 r6 ry
              have e36 := e34.trans rr r4 e6
              obtain ⟨ρ7, h7, u7, ex7, hp7⟩ := nxt e36 r6
              have ra7 := RelDs.mono e36 rr acc ra
              refine ⟨us, hp7, by rw [← ra7.len] at hz; exact hz, ?_⟩
              subst u7
              have ry' : RelD X.K (ρ7.hide p) st6.length H6 y vy := ry
              exact ⟨ρ7, st6, acc ++ [y], us ++ [vy], h7, ex7.upd_new hp, r6.hw hp7 rfl, (en'.mono e36 rr).hw hp7, upd_same, RelDs.hw hp7 _ (ra7.append (.cons ry' .nil)), oo⟩
            · exact oo.elim
  · refine .inl ⟨stop (by omega), ?_⟩
    rw [List.drop_eq_nil_of_le (by omega)] at oo
    exact oo ρ' H' (.ref p) ex rs ⟨p, us, rfl, hp, hpu, rr, ra⟩
theorem ef_comp {scope : Scope} {own : List (Str × Nat)} {g : SG} {ifs : List Expr} (hc : X.calm = true) (hN : X.N.Nodup) (hi : EvI X W tg iter mi) (ok : BlkOk X.N X.env.scope scope own)
    (hg : ∀ (s : Shared) (H : Hp) (C : Addr) (cl : List (Str × Addr)) (fp : List Addr), EvG (X.blk s H scope (compEnvC scope cl C X.env) fp) (own.map (·.2)) tg g)
    (ht : ∀ (s : Shared) (H : Hp) (C : Addr) (cl : List (Str × Addr)) (fp : List Addr), EvT (X.blk s H scope (compEnvC scope cl C X.env) fp) W0 ifs t)
    (he : ∀ (s : Shared) (H : Hp) (C : Addr) (cl : List (Str × Addr)) (fp : List Addr), EvE (X.blk s H scope (compEnvC scope cl C X.env) fp) W0 e m)
    (hs : ∀ x, foldedSetIterable iter X.env x = pure x := by intro _; rfl) :
    EvF X W (.ListComp e [⟨tg, iter, ifs, 0⟩] scope pos) (mComp mi g t m (own.map (·.2))) :=
  PE.imp (pe_lc (g := tG X.K (own.map (·.2)) g) (tt := tM X.K reB W0 t) (te := tM X.K (reD X.K) W0 m) hc hN hi ok hg ht he hs) fun σ H Q h => tM.lc h
/-- y = [..], where the store is swapped in -/
theorem ps_setC {i : Nat} {y : Str} {py spos : Pos} {scope : Scope} {own : List (Str × Nat)} {g : SG} {ifs : List Expr} {sm : SA → SE} (hsm : ∀ σ H Q, tM X.K (reD X.K) W (sm (mComp mi g t m (own.map (·.2)))) σ H Q → tM X.K (reN X.K) W (mComp mi g t m (own.map (·.2))) σ H Q)
    (hc : X.calm = true) (hN : X.N.Nodup) (hi : EvI X W tg iter mi) (ok : BlkOk X.N X.env.scope scope own)
    (hg : ∀ (s : Shared) (H : Hp) (C : Addr) (cl : List (Str × Addr)) (fp : List Addr), EvG (X.blk s H scope (compEnvC scope cl C X.env) fp) (own.map (·.2)) tg g)
    (ht : ∀ (s : Shared) (H : Hp) (C : Addr) (cl : List (Str × Addr)) (fp : List Addr), EvT (X.blk s H scope (compEnvC scope cl C X.env) fp) W0 ifs t)
    (he : ∀ (s : Shared) (H : Hp) (C : Addr) (cl : List (Str × Addr)) (fp : List Addr), EvE (X.blk s H scope (compEnvC scope cl C X.env) fp) W0 e m)
    (hy : X.N[i]? = some y := by rfl) (hyl : X.env.scope.names.lookup y = some .local := by rfl)
    (hsw : swapsWith (.ListComp e [⟨tg, iter, ifs, 0⟩] scope pos) (some (.Name y py)) spos.line X.env = pure true := by exact sw_true rfl rfl rfl (by decide +kernel))
    (hs : ∀ x, foldedSetIterable iter X.env x = pure x := by intro _; rfl) :
    EvS X W (.Assign [.Name y py] (.ListComp e [⟨tg, iter, ifs, 0⟩] scope pos) spos) (sSet i (sm (mComp mi g t m (own.map (·.2))))) :=
  PS.imp (ps_setLc (own := own) (g := tG X.K (own.map (fun p : Str × Nat => p.2)) g) (tt := tM X.K reB W0 t) (te := tM X.K (reD X.K) W0 m) hc hN hy hyl hsw hi ok hg ht he hs) fun D σ H ⟨ρ, τ, st, r0, en, o⟩ =>
    tM.lc (hsm σ H _ (tM.goS r0 en o fun d st1 ρ1 H1 v e1 r1 en1 q o1 => o1.next r1 (en1.set q i)))
end
end Fx

set_option Elab.async false
set_option linter.all false
set_option maxRecDepth 100000
set_option maxHeartbeats 4000000
namespace Fx
open PySem L2

/-! ### defs -/
abbrev FS := List D → Store → Rs D
def spF (K : PySem.W.Frag) (n : Nat) (f : FS) : Sp := fun vs H Q E => ∃ (ρ : Mp) (st : Store) (ds : List D), ds.length = n ∧ R K ρ st H ∧ RelDs K ρ st.length H ds vs ∧
  Out K (reD K) (fun c d _ H' => E c d H') [] ρ st.length H Q (f ds st)
abbrev FnD (P : Program) (w : World) (K : PySem.W.Frag) (mg : Str → Option Value) (base : Heap) (k : Nat) (f : Addr) (fd : FuncData) (ps : List Str) (fs : FS) : Prop :=
  FnOk P w K mg base (L2.CX P w) k f fd ps (spF K ps.length fs)

section
variable {X : Cx} {W : WX} {e a b c : Expr} {es : List Expr} {m ma mb mc : SE} {ms : SA} {u v : SS} {pos p : Pos} {k : Nat} {f : Addr} {fd : FuncData} {ps : List Str} {fs : FS} {x : Str}
def mCall (fs : FS) (ms : SA) : SE := fun τ st => (ms τ st).bind fs
theorem spF.of {W : WX} {σ : St} {ρ : Mp} {st : Store} {H : Hp} {Q : VK} {ds : List D} {vs : List V} {n : Nat} {K : PySem.W.Frag} (r : R K ρ st H) (rv : RelDs K ρ st.length H ds vs) (hl : ds.length = n) (o : Out K (reD K) W σ ρ st.length H Q (fs ds st)) : spF K n fs vs H Q (WE W σ) := by
  refine ⟨ρ, st, ds, hl, r, rv, ?_⟩
  cases q : fs ds st with
  | no => rw [q] at o; exact o
  | ok d s => rw [q] at o; exact o
  | er x s => rw [q] at o; exact o
theorem ev_call (F : FnD X.prog X.w X.K X.mg X.base k f fd ps fs) (hr : Room k X.A) (tk : Takes X W) (hm : X.mg x = some (.ref f)) (hk : PySem.W.keepIn X.K (.ref f) = true) (hb : Binds X.K fd ps []) (ha : EvA X W (e :: es) ms) (hl : LenA ms ps.length) (hg : Gl X x := by rfl)
    (hdb : (x == ("__debug__" : Str)) = false := by decide) (he : starEach (e :: es) X.env = (false, eval e X.env) :: starEach es X.env := by rfl) (hpl : (backTo pos (starEach es X.env)).any (·.1) = false := by rfl) :
    EvE X W (.Call (.Name x p) (e :: es) [] pos) (mCall fs ms) := PE.imp (pe_callS F hr hg hm hk hb (fun σ => passAt tk σ) ha hdb he hpl) fun σ H Q ⟨ρ, τ, st, r0, en, o⟩ => by
  refine ⟨ρ, τ, st, r0, en, ?_⟩
  cases q : ms τ st with
  | no => simp only [mCall, q] at o; exact o
  | er x s => simp only [mCall, q] at o; exact o
  | ok ds st1 =>
    simp only [mCall, q] at o
    exact fun ρ1 H1 vs e1 r1 rv => spF.of r1 rv (hl _ _ _ _ q) (Out.shift o r0 e1 r1)
/-- a call without arguments -/
theorem ev_call0 (F : FnD X.prog X.w X.K X.mg X.base k f fd [] fs) (hr : Room k X.A) (hno : ∀ st x s, fs [] st ≠ .er x s) (hm : X.mg x = some (.ref f)) (hk : PySem.W.keepIn X.K (.ref f) = true) (hb : Binds X.K fd [] []) (hg : Gl X x := by rfl)
    (hdb : (x == ("__debug__" : Str)) = false := by decide) : EvE X W (.Call (.Name x p) [] [] pos) (mCall fs mNil) :=
  PE.imp (pe_call0 (E := fun _ _ _ => False) (dvs := []) F hr hg hm hk hb .nil (fun pins σ H s e s' I c => by
    obtain ⟨_, _, _, _, _, _, _, _, _, _, _, _, z⟩ := c
    exact z.elim) hdb) fun σ H Q ⟨ρ, τ, st, r0, en, o⟩ => by
    show spF X.K 0 fs ([] ++ []) H Q _
    refine ⟨ρ, st, [], rfl, r0, .nil, ?_⟩
    have o' : Out X.K (reD X.K) W σ ρ st.length H Q (fs [] st) := o
    cases q : fs [] st with
    | no => rw [q] at o'; exact o'
    | ok d s => rw [q] at o'; exact o'
    | er x s => exact absurd q (hno _ _ _)
/-- a call of a local name that holds one of several defs -/
def mCallV (tab : Addr → Option (Nat × FS)) (i : Nat) (ms : SA) : SE := fun τ st => match τ[i]? with
  | some (some (.fn f)) => (match tab f with
    | some (n, fs) => (ms τ st).bind fun ds st1 => if ds.length = n then fs ds st1 else .no
    | none => .no)
  | _ => .no
def TabOk (P : Program) (w : World) (K : PySem.W.Frag) (mg : Str → Option Value) (base : Heap) (k : Nat) (tab : Addr → Option (Nat × FS)) : Prop :=
  ∀ f n fs, tab f = some (n, fs) → ∃ fd ps, ps.length = n ∧ FnD P w K mg base k f fd ps fs ∧ PySem.W.keepIn K (.ref f) = true ∧ Binds K fd ps []
theorem ev_callV {tab : Addr → Option (Nat × FS)} (i : Nat) (T : TabOk X.prog X.w X.K X.mg X.base k tab) (hr : Room k X.A) (tk : Takes X W) (ha : EvA X W (e :: es) ms) (hN : X.N[i]? = some x := by rfl)
    (hv : Vis X.env.scope x := by first | exact Or.inl rfl | exact Or.inr (Or.inl rfl) | exact Or.inr (Or.inr rfl))
    (hdb : (x == ("__debug__" : Str)) = false := by decide) (hcd : (x == ("__classdict__" : Str)) = false := by decide)
    (he : starEach (e :: es) X.env = (false, eval e X.env) :: starEach es X.env := by rfl) (hpl : (backTo pos (starEach es X.env)).any (·.1) = false := by rfl) : EvE X W (.Call (.Name x p) (e :: es) [] pos) (mCallV tab i ms) := by
  refine ⟨fun pins s σ H Q I h => ?_⟩
  obtain ⟨ρ, τ, st, r0, en, o⟩ := h
  unfold mCallV at o
  cases q : τ[i]? with
  | none => rw [q] at o; exact o.elim
  | some y =>
    rw [q] at o
    cases y with
    | none => exact o.elim
    | some d =>
      cases d with
      | fn f =>
        simp only at o
        cases q2 : tab f with
        | none => rw [q2] at o; exact o.elim
        | some nf =>
          obtain ⟨n, fs⟩ := nf
          rw [q2] at o
          simp only at o
          obtain ⟨fd, ps, hps, F, hk, hb⟩ := T f n fs q2
          obtain ⟨v, hs, rv⟩ := en.2 i _ q
          simp only [RelD] at rv
          subst rv
          refine (wpAny_Call_Name_kw (thn ((pe_var (pos := p) hN hv hdb hcd).run pins s σ H (fun v H1 => v = .ref f ∧ H1 = H) I ⟨.ref f, hs, rfl, rfl⟩) fun u s1 ⟨v, H1, I1, r1, q1⟩ => ?_))
          obtain ⟨rfl, rfl⟩ := q1
          cases r1
          have ht : tM X.K (reL X.K) W ms σ H1 fun vs H2 => spF X.K ps.length fs vs H2 Q (WE W σ) := by
            refine ⟨ρ, τ, st, r0, en, ?_⟩
            cases q3 : ms τ st with
            | no => rw [q3] at o; exact o
            | er x s => rw [q3] at o; exact o
            | ok ds st1 =>
              rw [q3] at o
              simp only [Rs.bind_ok] at o
              split at o
              · rename_i hl
                exact fun ρ1 H1 vs e1 r1 rv => spF.of r1 rv (hl.trans hps.symm) (Out.shift o r0 e1 r1)
              · exact o.elim
          refine PySem.W.callWith_K (h₀ := X.base) I.ok.mod.kin hk (thn (ha.run pos pins s1 σ _ _ I1 ht) fun us s2 ⟨vs, H2, I2, r, q⟩ => ⟨I2.kIn, ?_⟩) he hpl
          exact run_fnS F hr hb (passAt tk σ) I2 r q
      | _ => exact o.elim

/-- a body, run from its arguments -/
def runF (N : List Str) (m : SS) : FS := fun ds st => match m (ds.map some ++ List.replicate (N.length - ds.length) none) st with
  | .nx _ st' => .ok .non st'
  | .rt d st' => .ok d st'
  | .er x _ st' => .er x st'
  | _ => .no
end

section
variable {P : Program} {w : World} {K : PySem.W.Frag} {mg : Str → Option Value} {base : Heap}
theorem envR_start {ρ : Mp} {n : Nat} {H : Hp} {N : List Str} {ds : List D} {vs : List V} (rv : RelDs K ρ n H ds vs) : EnvR K ρ n H (ds.map some ++ List.replicate (N.length - ds.length) none) (L2.start N vs) := by
  have hl := rv.len
  refine ⟨by simp [L2.start, hl], fun i d q => ?_⟩
  by_cases hi : i < ds.length
  · rw [List.getElem?_append_left (by simpa using hi), List.getElem?_map] at q
    cases e : ds[i]? with
    | none => rw [e] at q; cases q
    | some d' =>
      rw [e] at q; cases q
      obtain ⟨v, h1, h2⟩ := rv.get e
      exact ⟨v, by unfold L2.start; rw [List.getElem?_append_left (by simpa [hl] using hi), List.getElem?_map, h1]; rfl, h2⟩
  · rw [List.getElem?_append_right (by simpa using hi), List.getElem?_replicate] at q
    split at q <;> cases q
/-- THE RULE of a def -/
theorem fn_def {x qual : Str} {st : Stmt} {f : Addr} {fd : FuncData} {N ps : List Str} {k : Nat} {m : SS} (F : Fun K x qual st f fd) (S : FnScope N ps (defScope st))
    (hbody : ∀ (cdv : Value) (A : Around) (outer : List PySem.Env) (s : Shared) (H : Hp) (E : XK) (X : Cx), X = cxOf (L2.CX P w) P w K mg base N qual (defScope st) f cdv A outer s H E → Room k X.A → Takes X (fun c d _ H => E c d H) → PassesOwn (model X.prog X.w) X.A X.env X.xe →
      EvSs (cxOf (L2.CX P w) P w K mg base N qual (defScope st) f cdv A outer s H E) (fun c d _ H => E c d H) (defBody st) m) : FnD P w K mg base (k + 1) f fd ps (runF N m) := by
  refine F.okX S (fun vs H Q E h => ?_) (fun cdv A outer s H vs Q E hr h => ?_)
  · obtain ⟨ρ, st, ds, hl, r, rv, o⟩ := h
    rw [rv.len, hl]
  · obtain ⟨ρ, st', ds, hl, r, rv, o⟩ := h
    refine ⟨_, hbody cdv A outer s H E _ rfl hr (takes_of rfl rfl rfl rfl) (passes_of rfl), ρ, _, st', r, envR_start (N := N) rv, ?_⟩
    unfold runF at o
    show OutS K _ ρ st'.length H _ (m _ st')
    cases q : m (ds.map some ++ List.replicate (N.length - ds.length) none) st' with
    | no => rw [q] at o; exact o
    | nx a b => rw [q] at o; exact fun ρ' H' σ' e' r' _ => o ρ' H' .non e' r' (by simp [reD, RelD])
    | rt a b => rw [q] at o; exact o
    | bk a b => rw [q] at o; exact o.elim
    | ct a b => rw [q] at o; exact o.elim
    | er x a b => rw [q] at o; exact fun ρ' H' σ' c d e' r' _ z => o ρ' H' c d e' r' z
end
end Fx

set_option Elab.async false
set_option linter.all false
set_option maxRecDepth 100000
set_option maxHeartbeats 4000000
namespace Fx
open PySem L2

/-! ### a def by what it gives: the objects that it leaves behind are forgotten, a list that it hands back is only read -/
mutual
def WfD (n : Nat) : D → Prop
  | .tup xs => WfDs n xs
  | .lst xs => WfDs n xs
  | .loc i => i < n
  | _ => True
def WfDs (n : Nat) : List D → Prop
  | [] => True
  | d :: ds => WfD n d ∧ WfDs n ds
end
def WfO (n : Nat) : O → Prop
  | .lst xs => WfDs n xs
  | .dk kvs => ∀ p ∈ kvs, WfD n p.2
  | .dt kvs => ∀ p ∈ kvs, WfD n p.2
def WfS (n : Nat) (st : Store) : Prop := ∀ (i : Nat) (o : O), st[i]? = some o → WfO n o
mutual
inductive Cv (n : Nat) (S : Store) : D → D → Prop
  | refl {d : D} (h : WfD n d) : Cv n S d d
  | tup {xs ys : List D} (h : Cvs n S xs ys) : Cv n S (.tup xs) (.tup ys)
  | lst {xs ys : List D} (h : Cvs n S xs ys) : Cv n S (.lst xs) (.lst ys)
  | frz {i : Nat} {xs ys : List D} (hn : n ≤ i) (hi : S[i]? = some (.lst xs)) (h : Cvs n S xs ys) : Cv n S (.loc i) (.lst ys)
inductive Cvs (n : Nat) (S : Store) : List D → List D → Prop
  | nil : Cvs n S [] []
  | cons {x y : D} {xs ys : List D} (h : Cv n S x y) (t : Cvs n S xs ys) : Cvs n S (x :: xs) (y :: ys)
end
theorem Cvs.refl {n : Nat} {S : Store} : ∀ {ds : List D}, WfDs n ds → Cvs n S ds ds
  | [], _ => .nil
  | d :: ds, h => by simp only [WfDs] at h; exact .cons (.refl h.1) (Cvs.refl h.2)
section
variable {K : PySem.W.Frag} {ρ : Mp} {n m : Nat} {H : Hp} {S st : Store}
mutual
theorem RelD.wf : ∀ (d : D) {v : V}, RelD K ρ n H d v → WfD n d
  | .non, v, h => by simp [WfD]
  | .bl b, v, h => by simp [WfD]
  | .int b, v, h => by simp [WfD]
  | .str b, v, h => by simp [WfD]
  | .ty b, v, h => by simp [WfD]
  | .fn b, v, h => by simp [WfD]
  | .tup xs, v, h => by
    simp only [RelD] at h
    obtain ⟨a, vs, _, _, q⟩ := h
    simp only [WfD]; exact RelDs.wf xs q
  | .lst xs, v, h => by
    simp only [RelD] at h
    obtain ⟨a, vs, _, _, q⟩ := h
    simp only [WfD]; exact RelDs.wf xs q
  | .loc i, v, h => by simp only [RelD] at h; simp only [WfD]; exact h.2
theorem RelDs.wf : ∀ (ds : List D) {vs : List V}, RelDs K ρ n H ds vs → WfDs n ds
  | [], vs, h => by simp [WfDs]
  | d :: ds, vs, h => by
    simp only [RelDs] at h
    obtain ⟨v, w, rfl, h1, h2⟩ := h
    simp only [WfDs]; exact ⟨RelD.wf d h1, RelDs.wf ds h2⟩
end
mutual
theorem RelD.less (hn : n ≤ m) : ∀ (d : D) {v : V}, RelD K ρ m H d v → WfD n d → RelD K ρ n H d v
  | .non, v, h, _ => by simpa only [RelD] using h
  | .bl b, v, h, _ => by simpa only [RelD] using h
  | .int b, v, h, _ => by simpa only [RelD] using h
  | .str b, v, h, _ => by simpa only [RelD] using h
  | .ty b, v, h, _ => by simpa only [RelD] using h
  | .fn b, v, h, _ => by simpa only [RelD] using h
  | .tup xs, v, h, q => by
    simp only [RelD] at h ⊢
    simp only [WfD] at q
    obtain ⟨a, vs, e, s, r⟩ := h
    exact ⟨a, vs, e, s, RelDs.less hn xs r q⟩
  | .lst xs, v, h, q => by
    simp only [RelD] at h ⊢
    simp only [WfD] at q
    obtain ⟨a, vs, e, s, r⟩ := h
    exact ⟨a, vs, e, s.imp (fun ⟨x, y, z⟩ => ⟨x, fun i hi => y i (Nat.lt_of_lt_of_le hi hn), z⟩) id, RelDs.less hn xs r q⟩
  | .loc i, v, h, q => by
    simp only [RelD] at h ⊢
    simp only [WfD] at q
    exact ⟨h.1, q⟩
theorem RelDs.less (hn : n ≤ m) : ∀ (ds : List D) {vs : List V}, RelDs K ρ m H ds vs → WfDs n ds → RelDs K ρ n H ds vs
  | [], vs, h, _ => by simpa only [RelDs] using h
  | d :: ds, vs, h, q => by
    simp only [RelDs] at h ⊢
    simp only [WfDs] at q
    obtain ⟨v, w, e, h1, h2⟩ := h
    exact ⟨v, w, e, RelD.less hn d h1 q.1, RelDs.less hn ds h2 q.2⟩
end
theorem Paired.withMem {α β : Type} {F G : α → β → Prop} : ∀ {l₁ : List α} {l₂ : List β}, Paired F l₁ l₂ → (∀ a b, a ∈ l₁ → F a b → G a b) → Paired G l₁ l₂
  | _, _, .nil, _ => .nil
  | _, _, .cons r t, f => .cons (f _ _ List.mem_cons_self r) (Paired.withMem t fun a b h q => f a b (List.mem_cons_of_mem _ h) q)
theorem Paired.left {α β : Type} {F : α → β → Prop} {P : α → Prop} : ∀ {l₁ : List α} {l₂ : List β}, Paired F l₁ l₂ → (∀ a b, F a b → P a) → ∀ a ∈ l₁, P a
  | _, _, .nil, _, a, h => by simp at h
  | _, _, .cons r t, f, a, h => by
    rcases List.mem_cons.mp h with rfl | h
    · exact f _ _ r
    · exact Paired.left t f a h
theorem ObjR.wf {o : O} {a : Addr} (h : ObjR K ρ n H o a) : WfO n o := by
  cases o with
  | lst ds => obtain ⟨vs, _, q⟩ := h; exact RelDs.wf ds q
  | dk kvs => obtain ⟨ws, _, q⟩ := h; exact Paired.left q fun a b z => RelD.wf _ z.2
  | dt kvs => obtain ⟨ws, _, q⟩ := h; exact Paired.left q fun a b z => RelD.wf _ z.2
theorem ObjR.less (hn : n ≤ m) {o : O} {a : Addr} (h : ObjR K ρ m H o a) (w : WfO n o) : ObjR K ρ n H o a := by
  cases o with
  | lst ds => obtain ⟨vs, e, q⟩ := h; exact ⟨vs, e, RelDs.less hn ds q w⟩
  | dk kvs => obtain ⟨ws, e, q⟩ := h; exact ⟨ws, e, Paired.withMem q fun a b hm z => ⟨z.1, RelD.less hn _ z.2 (w a hm)⟩⟩
  | dt kvs => obtain ⟨ws, e, q⟩ := h; exact ⟨ws, e, Paired.withMem q fun a b hm z => ⟨z.1, RelD.less hn _ z.2 (w a hm)⟩⟩
theorem R.wf (r : R K ρ st H) : WfS st.length st := fun i o h => (r.obj i o h).wf
theorem R.forget {g : Store} (r : R K ρ (st ++ g) H) (w : WfS st.length st) : R K ρ st H := by
  have hl : st.length ≤ (st ++ g).length := by simp
  refine ⟨fun i o h => ?_, fun i j hi hj => r.inj i j (by omega) (by omega), r.hid, fun i hi => r.sep i (by omega)⟩
  have hi : i < st.length := (List.getElem?_eq_some_iff.mp h).1
  exact (r.obj i o (by rw [List.getElem?_append_left hi]; exact h)).less hl (w i o h)
mutual
theorem Cv.rel (r : R K ρ S H) (hn : n ≤ S.length) : ∀ {d d' : D} {v : V}, Cv n S d d' → RelD K ρ S.length H d v → RelD K ρ n H d' v
  | d, _, v, .refl w, h => RelD.less hn d h w
  | .tup xs, .tup ys, v, .tup c, h => by
    simp only [RelD] at h ⊢
    obtain ⟨a, vs, e, s, q⟩ := h
    exact ⟨a, vs, e, s, Cvs.rel r hn c q⟩
  | .lst xs, .lst ys, v, .lst c, h => by
    simp only [RelD] at h ⊢
    obtain ⟨a, vs, e, s, q⟩ := h
    exact ⟨a, vs, e, s.imp (fun ⟨x, y, z⟩ => ⟨x, fun i hi => y i (Nat.lt_of_lt_of_le hi hn), z⟩) id, Cvs.rel r hn c q⟩
  | .loc i, .lst ys, v, .frz (xs := xs) hi hs c, h => by
    simp only [RelD] at h ⊢
    obtain ⟨rfl, hl⟩ := h
    obtain ⟨vs, e, q⟩ := r.obj i _ hs
    exact ⟨_, vs, rfl, .inl ⟨.inl e, fun j hj z => absurd (r.inj j i (by omega) hl z) (by omega), r.sep i hl⟩, Cvs.rel r hn c q⟩
theorem Cvs.rel (r : R K ρ S H) (hn : n ≤ S.length) : ∀ {ds ds' : List D} {vs : List V}, Cvs n S ds ds' → RelDs K ρ S.length H ds vs → RelDs K ρ n H ds' vs
  | [], [], vs, .nil, h => by simpa only [RelDs] using h
  | d :: ds, d' :: ds', vs, .cons c t, h => by
    simp only [RelDs] at h ⊢
    obtain ⟨v, w, e, h1, h2⟩ := h
    exact ⟨v, w, e, Cv.rel r hn c h1, Cvs.rel r hn t h2⟩
end
end

/-- r' says of r what callers need -/
def Ref (n0 : Nat) (r' r : Rs D) : Prop := match r' with
  | .no => True
  | .ok d' st' => ∃ d g, r = .ok d (st' ++ g) ∧ Cv st'.length (st' ++ g) d d' ∧ WfS st'.length st' ∧ n0 ≤ st'.length
  | .er x st' => ∃ g, r = .er x (st' ++ g) ∧ (∀ fs, x.fs = some fs → ∀ p ∈ fs, WfD st'.length p.2) ∧ WfS st'.length st' ∧ n0 ≤ st'.length
theorem fn_ref {P : Program} {w : World} {K : PySem.W.Frag} {mg : Str → Option Value} {base : Heap} {k : Nat} {f : Addr} {fd : FuncData} {ps : List Str} {fs fs' : FS} (F : FnD P w K mg base k f fd ps fs)
    (h : ∀ ds st, ds.length = ps.length → WfDs st.length ds → WfS st.length st → Ref st.length (fs' ds st) (fs ds st)) : FnD P w K mg base k f fd ps fs' := by
  refine FnOk.imp F fun vs H Q E hs => ?_
  obtain ⟨ρ, st, ds, hl, r, rv, o⟩ := hs
  refine ⟨ρ, st, ds, hl, r, rv, ?_⟩
  have q := h ds st hl (RelDs.wf ds rv) r.wf
  cases e : fs' ds st with
  | no => rw [e] at o; exact o.elim
  | ok d' st' =>
    rw [e] at o q
    obtain ⟨d, g, e2, c, wf, le⟩ := q
    rw [e2]
    intro ρ1 H1 v e1 r1 rd
    have hl' : st'.length ≤ (st' ++ g).length := by simp
    exact o ρ1 H1 v ⟨le, e1.old, fun i h1 h2 => e1.new i h1 (by omega), e1.keep, e1.hid⟩ (r1.forget wf) (Cv.rel r1 hl' c rd)
  | er x st' =>
    rw [e] at o q
    obtain ⟨g, e2, c, wf, le⟩ := q
    rw [e2]
    intro ρ1 H1 cls dd e1 r1 rd
    have hl' : st'.length ≤ (st' ++ g).length := by simp
    refine o ρ1 H1 cls dd ⟨le, e1.old, fun i h1 h2 => e1.new i h1 (by omega), e1.keep, e1.hid⟩ (r1.forget wf) ?_
    obtain ⟨hc, rd⟩ := rd
    refine ⟨hc, ?_⟩
    cases q1 : x.fs with
    | none =>
      rw [q1] at rd
      cases dd with
      | none => exact trivial
      | some d => exact rd.elim
    | some fs1 =>
      rw [q1] at rd
      cases dd with
      | none => exact rd.elim
      | some d =>
        obtain ⟨ws, hw, p⟩ := rd
        exact ⟨ws, hw, Paired.withMem p fun a b hm z => ⟨z.1, RelD.less hl' _ z.2 (c fs1 q1 a hm)⟩⟩
theorem Ref.no {n0 : Nat} {r : Rs D} : Ref n0 .no r := trivial
theorem Ref.pure {n0 : Nat} {d : D} {st : Store} {r : Rs D} (hw : WfS st.length st) (hd : WfD st.length d) (hn : n0 ≤ st.length) (g : Store) (e : r = .ok d (st ++ g)) : Ref n0 (.ok d st) r := ⟨d, g, e, .refl hd, hw, hn⟩
theorem Ref.err {n0 : Nat} {x : Ex} {st : Store} {r : Rs D} (hw : WfS st.length st) (hd : ∀ fs, x.fs = some fs → ∀ p ∈ fs, WfD st.length p.2) (hn : n0 ≤ st.length) (g : Store) (e : r = .er x (st ++ g)) : Ref n0 (.er x st) r := ⟨g, e, hd, hw, hn⟩
/-- a list made by the def is handed back -/
theorem Ref.list {n0 : Nat} {xs : List D} {st g : Store} {r : Rs D} {i : Nat} (hw : WfS st.length st) (hd : WfDs st.length xs) (hn : n0 ≤ st.length) (e : r = .ok (.loc i) (st ++ g)) (hi : st.length ≤ i) (hg : (st ++ g)[i]? = some (.lst xs)) : Ref n0 (.ok (.lst xs) st) r :=
  ⟨_, g, e, .frz hi hg (Cvs.refl hd), hw, hn⟩
end Fx

set_option Elab.async false
set_option linter.all false
set_option maxRecDepth 100000
set_option maxHeartbeats 4000000
namespace Fx
open PySem L2

/-! ### reading sequences -/
def seqOf (d : D) (st : Store) : Option (List D) := match d with
  | .tup ds => some ds
  | .lst ds => some ds
  | .loc i => (match st[i]? with
    | some (.lst ds) => some ds
    | _ => none)
  | _ => none
def listOf (d : D) (st : Store) : Option (List D) := match d with
  | .lst ds => some ds
  | .loc i => (match st[i]? with
    | some (.lst ds) => some ds
    | _ => none)
  | _ => none
section
variable {K : PySem.W.Frag} {ρ : Mp} {st : Store} {H : Hp} {d : D} {v : V} {ds : List D}
theorem listOf_rel (r : R K ρ st H) (h : RelD K ρ st.length H d v) (e : listOf d st = some ds) : ∃ a vs, v = .ref a ∧ SqL K H a vs ∧ RelDs K ρ st.length H ds vs := by
  cases d with
  | lst xs =>
    simp only [listOf] at e; cases e
    simp only [RelD] at h
    obtain ⟨a, vs, rfl, s, q⟩ := h
    exact ⟨a, vs, rfl, s.sq, q⟩
  | loc i =>
    simp only [listOf] at e
    simp only [RelD] at h
    obtain ⟨rfl, _⟩ := h
    cases q : st[i]? with
    | none => rw [q] at e; cases e
    | some o =>
      rw [q] at e
      cases o with
      | lst xs =>
        cases e
        obtain ⟨vs, hv, rv⟩ := r.obj i _ q
        exact ⟨_, vs, rfl, SqL.of hv, rv⟩
      | _ => cases e
  | _ => cases e
theorem seqOf_rel (r : R K ρ st H) (h : RelD K ρ st.length H d v) (e : seqOf d st = some ds) : ∃ a vs, v = .ref a ∧ (SqL K H a vs ∨ H a = some (.tup vs)) ∧ RelDs K ρ st.length H ds vs := by
  cases d with
  | tup xs =>
    simp only [seqOf] at e; cases e
    simp only [RelD] at h
    obtain ⟨a, vs, rfl, s, q⟩ := h
    exact ⟨a, vs, rfl, .inr s, q⟩
  | lst xs =>
    obtain ⟨a, vs, h1, h2, h3⟩ := listOf_rel r h (show listOf (.lst xs) st = some ds from e)
    exact ⟨a, vs, h1, .inl h2, h3⟩
  | loc i =>
    obtain ⟨a, vs, h1, h2, h3⟩ := listOf_rel r h (show listOf (.loc i) st = some ds from e)
    exact ⟨a, vs, h1, .inl h2, h3⟩
  | _ => cases e
theorem loc_rel (r : R K ρ st H) {i : Nat} (h : RelD K ρ st.length H (.loc i) v) (e : st[i]? = some (.lst ds)) : i < st.length ∧ v = .ref (ρ.at' i) ∧ ∃ vs, H (ρ.at' i) = some (.lst vs) ∧ RelDs K ρ st.length H ds vs := by
  simp only [RelD] at h
  obtain ⟨vs, hv, rv⟩ := r.obj i _ e
  exact ⟨h.2, h.1, vs, hv, rv⟩
end

/-! ### the ints' operators -/
section
variable {X : Cx} {W : WX}
theorem opS_ints {g : Value → Value → Sem Value} {C : Int → Int → Prop} {h : Int → Int → V} {hd : Int → Int → D} {f : D → D → Store → Rs D} (ho : OpR X g (rI C h))
    (hf : ∀ x y st, f x y st ≠ .no → ∃ i j, x = .int i ∧ y = .int j ∧ C i j ∧ f x y st = .ok (hd i j) st) (hr : ∀ i j ρ n H, RelD X.K ρ n H (hd i j) (h i j)) : OpS X g f := by
  refine ⟨_, ho, fun W σ ρ st H x y vx vy Q r rx ry o => ?_⟩
  have hn : f x y st ≠ .no := fun z => by rw [z] at o; exact o
  obtain ⟨i, j, rfl, rfl, c, e⟩ := hf x y st hn
  simp only [RelD] at rx ry
  rw [e] at o
  exact ⟨i, j, rx, ry, c, o.here r (hr _ _ _ _ _)⟩
def onII (f : Int → Int → D) : D → D → Store → Rs D := fun x y st => match x, y with
  | .int i, .int j => .ok (f i j) st
  | _, _ => .no
def onIIc (c : Int → Int → Bool) (f : Int → Int → D) : D → D → Store → Rs D := fun x y st => match x, y with
  | .int i, .int j => if c i j = true then .ok (f i j) st else .no
  | _, _ => .no
theorem onII_ok {f : Int → Int → D} {x y : D} {st : Store} (h : onII f x y st ≠ .no) : ∃ i j, x = .int i ∧ y = .int j ∧ True ∧ onII f x y st = .ok (f i j) st := by
  cases x with
  | int i =>
    cases y with
    | int j => exact ⟨i, j, rfl, rfl, trivial, rfl⟩
    | _ => exact absurd rfl h
  | _ => exact absurd rfl h
theorem onIIc_ok {c : Int → Int → Bool} {f : Int → Int → D} {x y : D} {st : Store} (h : onIIc c f x y st ≠ .no) : ∃ i j, x = .int i ∧ y = .int j ∧ c i j = true ∧ onIIc c f x y st = .ok (f i j) st := by
  cases x with
  | int i =>
    cases y with
    | int j =>
      simp only [onIIc] at h ⊢
      by_cases hc : c i j = true
      · exact ⟨i, j, rfl, rfl, hc, by rw [if_pos hc]⟩
      · rw [if_neg hc] at h; exact absurd rfl h
    | _ => exact absurd rfl h
  | _ => exact absurd rfl h
theorem rI_of0 {g : Value → Value → Sem Value} {h : Int → Int → V} (ho : OpR X g (rI0 h)) : OpR X g (rI (fun _ _ => True) h) := fun pins s σ H x y v u Q I rx ry ⟨i, j, e1, e2, _, q⟩ => ho pins s σ H x y v u Q I rx ry ⟨i, j, e1, e2, q⟩
/-- the bits of two factors -/
theorem ex_mulFits : ∃ f : Int → Int → Bool, ∀ i j, f i j = true ↔ ((-18446744073709551616 < i ∧ i < 18446744073709551616) ∨ (-18446744073709551616 < j ∧ j < 18446744073709551616) ∨ i.natAbs.log2 + j.natAbs.log2 < 100000000) :=
  ⟨fun i j => decide ((-18446744073709551616 < i ∧ i < 18446744073709551616) ∨ (-18446744073709551616 < j ∧ j < 18446744073709551616) ∨ i.natAbs.log2 + j.natAbs.log2 < 100000000), fun i j => decide_eq_true_iff⟩
noncomputable def mulFits : Int → Int → Bool := ex_mulFits.choose
theorem mulFits_iff {i j : Int} : mulFits i j = true ↔ ((-18446744073709551616 < i ∧ i < 18446744073709551616) ∨ (-18446744073709551616 < j ∧ j < 18446744073709551616) ∨ i.natAbs.log2 + j.natAbs.log2 < 100000000) := ex_mulFits.choose_spec i j
theorem mulFits_ok {i j : Int} (h : mulFits i j = true) : IntMulOk i j := by
  rcases mulFits_iff.mp h with h | h | h
  · exact IntMulOk.of_left (intBits_le_64 (by omega) (by omega))
  · exact IntMulOk.of_right (intBits_le_64 (by omega) (by omega))
  have b : ∀ x : Int, Builtin.Int.intBits x ≤ x.natAbs.log2 + 1 := fun x => by
    unfold Builtin.Int.intBits
    split <;> omega
  have h1 := b i
  have h2 := b j
  have h3 : i.natAbs.log2 + j.natAbs.log2 < 100000000 := h
  have e : bitsLine = 134217728 := by decide
  unfold IntMulOk
  intro z
  rw [Bool.and_eq_true] at z
  have z2 := z.2
  unfold Builtin.Int.intTooBig at z2
  have z3 := of_decide_eq_true z2
  rw [e] at z3
  omega
theorem ex_divFits : ∃ f : Int → Int → Bool, ∀ i j, f i j = true ↔ (0 < j ∧ j.natAbs.log2 < 9000) := ⟨fun _ j => decide (0 < j ∧ j.natAbs.log2 < 9000), fun i j => decide_eq_true_iff⟩
noncomputable def divFits : Int → Int → Bool := ex_divFits.choose
theorem divFits_iff {i j : Int} : divFits i j = true ↔ (0 < j ∧ j.natAbs.log2 < 9000) := ex_divFits.choose_spec i j
theorem opS_sub : OpS X (binaryOp .Sub) (onII fun i j => .int (i - j)) := opS_ints (rI_of0 op_sub) (fun x y st h => onII_ok h) (fun _ _ _ _ _ => by simp [RelD])
theorem op_mulX : OpR X (binaryOp .Mult) (rI (fun i j => mulFits i j = true) fun i j => .int (i * j)) := opI fun _ _ _ _ _ _ _ hc q => PyProof.Rows.mul_int q (mulFits_ok hc)
theorem opS_mulI : OpS X (binaryOp .Mult) (onIIc mulFits fun i j => .int (i * j)) := opS_ints op_mulX (fun x y st h => onIIc_ok h) (fun _ _ _ _ _ => by simp [RelD])
theorem op_fdivX : OpR X (binaryOp .FloorDiv) (rI (fun i j => divFits i j = true) fun i j => .int (i / j)) := opI fun i j _ _ _ _ _ hc q => by
  obtain ⟨h1, h2⟩ := divFits_iff.mp hc
  exact PyProof.Rows.floordiv_int (by omega) (by rw [Int.fdiv_eq_ediv_of_nonneg i (by omega)]; exact q) (.inl (PyProof.noPylong_of_log2 h2))
theorem opS_fdiv : OpS X (binaryOp .FloorDiv) (onIIc divFits fun i j => .int (i / j)) := opS_ints op_fdivX (fun x y st h => onIIc_ok h) (fun _ _ _ _ _ => by simp [RelD])
theorem opS_mod : OpS X (binaryOp .Mod) (onIIc (fun _ j => decide (0 < j)) fun i j => .int (i % j)) :=
  opS_ints (C := fun i j => decide (0 < j) = true) (fun pins s σ H x y v u Q I rx ry ⟨i, j, e1, e2, c, q⟩ => op_mod pins s σ H x y v u Q I rx ry ⟨i, j, e1, e2, of_decide_eq_true c, q⟩) (fun x y st h => onIIc_ok h) (fun _ _ _ _ _ => by simp [RelD])
theorem opS_lt : OpS X (compareOp .Lt) (onII fun i j => .bl (decide (i < j))) := opS_ints (rI_of0 op_lt) (fun x y st h => onII_ok h) (fun _ _ _ _ _ => by simp [RelD])
theorem opS_le : OpS X (compareOp .LtE) (onII fun i j => .bl (decide (i ≤ j))) := opS_ints (rI_of0 op_le) (fun x y st h => onII_ok h) (fun _ _ _ _ _ => by simp [RelD])
theorem opS_gt : OpS X (compareOp .Gt) (onII fun i j => .bl (decide (j < i))) := opS_ints (rI_of0 op_gt) (fun x y st h => onII_ok h) (fun _ _ _ _ _ => by simp [RelD])
theorem opS_ge : OpS X (compareOp .GtE) (onII fun i j => .bl (decide (j ≤ i))) := opS_ints (rI_of0 op_ge) (fun x y st h => onII_ok h) (fun _ _ _ _ _ => by simp [RelD])
/-! + of ints, texts, tuples, lists -/
noncomputable def fAdd : D → D → Store → Rs D := fun x y st => match x, y with
  | .int i, .int j => .ok (.int (i + j)) st
  | .str a, .str b => if szFits (a.length + b.length) = true then .ok (.str (a ++ b)) st else .no
  | .tup a, .tup b => if szFits (a.length + b.length) = true then .ok (.tup (a ++ b)) st else .no
  | x, y => .no
theorem opS_add : OpS X (binaryOp .Add) fAdd := by
  refine ⟨_, (op_add.or op_add_str).or op_catA, fun W σ ρ st H x y vx vy Q r rx ry o => ?_⟩
  cases x with
  | int i =>
    cases y with
    | int j => simp only [RelD] at rx ry; exact .inl (.inl ⟨i, j, rx, ry, o.here r (by simp [reD, RelD])⟩)
    | _ => exact o.elim
  | str a =>
    cases y with
    | str b =>
      simp only [RelD] at rx ry
      simp only [fAdd] at o
      split at o
      · rename_i h; exact .inl (.inr ⟨a, b, rx, ry, szFits_iff.mp h, o.here r (by simp [reD, RelD])⟩)
      · exact o.elim
    | _ => exact o.elim
  | tup a =>
    cases y with
    | tup b =>
      simp only [RelD] at rx ry
      simp only [fAdd] at o
      obtain ⟨p, us, rfl, hs, rs⟩ := rx
      obtain ⟨p2, ws, rfl, ht, rt⟩ := ry
      split at o
      · rename_i h0
        have h := szFits_iff.mp h0
        refine .inr ⟨p, p2, us, ws, rfl, rfl, SqT.of hs, SqT.of ht, by rw [rs.len, rt.len]; exact h, fun e => ?_, fun e1 e2 => ?_, fun e1 e2 q hq => ?_⟩
        · subst e
          have : a = [] := List.length_eq_zero_iff.mp (by rw [← rs.len]; rfl)
          subst this
          exact o.here r (by simp only [reD, RelD, List.nil_append]; exact ⟨p2, ws, rfl, ht, rt⟩)
        · subst e2
          have : b = [] := List.length_eq_zero_iff.mp (by rw [← rt.len]; rfl)
          subst this
          exact o.here r (by simp only [reD, RelD, List.append_nil]; exact ⟨p, us, rfl, hs, rs⟩)
        · refine o.free r hq ?_
          simp only [reD, RelD]
          exact ⟨q, _, rfl, upd_same, RelDs.mono (r.push_ext hq) r _ (rs.append rt)⟩
      · exact o.elim
    | _ => exact o.elim
  | _ => exact o.elim

/-! ### == -/
mutual
def toPy : D → PyData
  | .bl b => .bool b
  | .int i => .int i
  | .str x => .str x
  | .tup xs => .tuple (toPys xs)
  | .lst xs => .list (toPys xs)
  | _ => .none
def toPys : List D → List PyData
  | [] => []
  | d :: ds => toPy d :: toPys ds
end
mutual
def dOk : D → Bool
  | .non => true
  | .bl _ => true
  | .int _ => true
  | .str x => PyData.strOk x
  | .tup xs => dOks xs
  | .lst xs => dOks xs
  | _ => false
def dOks : List D → Bool
  | [] => true
  | d :: ds => dOk d && dOks ds
end
mutual
theorem canLay_of : ∀ d : D, dOk d = true → (toPy d).canLay0 = true
  | .non, _ => rfl
  | .bl _, _ => rfl
  | .int _, _ => rfl
  | .str x, h => h
  | .tup xs, h => by
    simp only [dOk] at h; simp only [toPy, PyData.canLay0]; exact canLays_of xs h
  | .lst xs, h => by
    simp only [dOk] at h; simp only [toPy, PyData.canLay0]; exact canLays_of xs h
theorem canLays_of : ∀ ds : List D, dOks ds = true → PyData.canLayAll0 (toPys ds) = true
  | [], _ => rfl
  | d :: ds, h => by
    simp only [dOks, Bool.and_eq_true] at h
    simp only [toPys, PyData.canLayAll0, Bool.and_eq_true]
    exact ⟨canLay_of d h.1, canLays_of ds h.2⟩
end
section
variable {K : PySem.W.Frag} {ρ : Mp} {n : Nat} {H : Hp}
mutual
theorem dp_of : ∀ (d : D) {v : V}, dOk d = true → RelD K ρ n H d v → Dp K H v (toPy d)
  | .non, v, _, h => by simp only [RelD] at h; subst h; exact .non
  | .bl b, v, _, h => by simp only [RelD] at h; subst h; exact .bl b
  | .int b, v, _, h => by simp only [RelD] at h; subst h; exact .int b
  | .str b, v, _, h => by simp only [RelD] at h; subst h; exact .str b
  | .tup xs, v, k, h => by
    simp only [RelD] at h
    simp only [dOk] at k
    obtain ⟨a, vs, rfl, s, q⟩ := h
    simp only [toPy]
    exact .tup (SqT.of s) (dps_of xs k q)
  | .lst xs, v, k, h => by
    simp only [RelD] at h
    simp only [dOk] at k
    obtain ⟨a, vs, rfl, s, q⟩ := h
    simp only [toPy]
    exact .lst s.sq (dps_of xs k q)
theorem dps_of : ∀ (ds : List D) {vs : List V}, dOks ds = true → RelDs K ρ n H ds vs → DpAll K H vs (toPys ds)
  | [], vs, _, h => by rw [h.nil_eq]; exact .nil
  | d :: ds, vs, k, h => by
    simp only [dOks, Bool.and_eq_true] at k
    obtain ⟨v, w, rfl, h1, h2⟩ := h.cases
    simp only [toPys]
    exact .cons (dp_of d k.1 h1) (dps_of ds k.2 h2)
end
end
def shD (d : D) : Bool := dOk d && decide ((toPy d).depth ≤ 64)
theorem shaped_of {d : D} (h : shD d = true) : SeqAt.shaped (toPy d) = true := by
  unfold shD at h
  rw [Bool.and_eq_true] at h
  unfold SeqAt.shaped
  rw [canLay_of d h.1, h.2]; rfl
def eqD (x y : D) : Bool := PyData.eqv (toPy x) (toPy y)
def fEq : D → D → Store → Rs D := fun x y st => if shD x = true ∧ shD y = true then .ok (.bl (eqD x y)) st else .no
def fNe : D → D → Store → Rs D := fun x y st => if shD x = true ∧ shD y = true then .ok (.bl (!eqD x y)) st else .no
theorem shD_ok {d : D} (h : shD d = true) : dOk d = true := by unfold shD at h; rw [Bool.and_eq_true] at h; exact h.1
theorem opS_eq (hu : X.A.units + 64 < cLine) : OpS X (compareOp .Eq) fEq := by
  refine ⟨_, op_eqD hu, fun W σ ρ st H x y vx vy Q r rx ry o => ?_⟩
  unfold fEq at o
  split at o
  · rename_i h
    exact ⟨_, _, dp_of x (shD_ok h.1) rx, dp_of y (shD_ok h.2) ry, shaped_of h.1, shaped_of h.2, o.here r (by simp [reD, RelD, eqD])⟩
  · exact o.elim
theorem opS_ne (hu : X.A.units + 64 < cLine) : OpS X (compareOp .NotEq) fNe := by
  refine ⟨_, op_neD hu, fun W σ ρ st H x y vx vy Q r rx ry o => ?_⟩
  unfold fNe at o
  split at o
  · rename_i h
    exact ⟨_, _, dp_of x (shD_ok h.1) rx, dp_of y (shD_ok h.2) ry, shaped_of h.1, shaped_of h.2, o.here r (by simp [reD, RelD, eqD])⟩
  · exact o.elim
/-! ### is -/
def fIs : D → D → Store → Rs D := fun x y st => match x, y with
  | .bl a, .bl b => .ok (.bl (decide (a = b))) st
  | .non, .non => .ok (.bl true) st
  | .bl _, .non => .ok (.bl false) st
  | .int _, .non => .ok (.bl false) st
  | .str _, .non => .ok (.bl false) st
  | .tup _, .non => .ok (.bl false) st
  | .lst _, .non => .ok (.bl false) st
  | .loc _, .non => .ok (.bl false) st
  | .fn _, .non => .ok (.bl false) st
  | _, _ => .no
def fIsNot : D → D → Store → Rs D := fun x y st => (fIs x y st).bind fun d st1 => match d with
  | .bl b => .ok (.bl (!b)) st1
  | _ => .no
theorem opS_is : OpS X (compareOp .Is) fIs := by
  refine ⟨_, op_isBl.or op_isN, fun W σ ρ st H x y vx vy Q r rx ry o => ?_⟩
  cases y with
  | bl b =>
    cases x with
    | bl a => simp only [RelD] at rx ry; exact .inl ⟨a, b, rx, ry, o.here r (by simp [reD, RelD])⟩
    | _ => exact o.elim
  | non =>
    simp only [RelD] at ry
    subst ry
    refine .inr ⟨rfl, ?_⟩
    cases x with
    | non => simp only [RelD] at rx; subst rx; exact o.here r (by simp [reD, RelD])
    | bl a => simp only [RelD] at rx; subst rx; exact o.here r (by simp [reD, RelD])
    | int a => simp only [RelD] at rx; subst rx; exact o.here r (by simp [reD, RelD])
    | str a => simp only [RelD] at rx; subst rx; exact o.here r (by simp [reD, RelD])
    | fn a => simp only [RelD] at rx; subst rx; exact o.here r (by simp [reD, RelD])
    | tup a => simp only [RelD] at rx; obtain ⟨_, _, rfl, _⟩ := rx; exact o.here r (by simp [reD, RelD])
    | lst a => simp only [RelD] at rx; obtain ⟨_, _, rfl, _⟩ := rx; exact o.here r (by simp [reD, RelD])
    | loc a => simp only [RelD] at rx; obtain ⟨rfl, _⟩ := rx; exact o.here r (by simp [reD, RelD])
    | ty a => exact o.elim
  | _ => cases x <;> exact o.elim
theorem opS_isNot : OpS X (compareOp .IsNot) fIsNot := by
  refine ⟨_, op_notBl.or op_notN, fun W σ ρ st H x y vx vy Q r rx ry o => ?_⟩
  cases y with
  | bl b =>
    cases x with
    | bl a => simp only [RelD] at rx ry; exact .inl ⟨a, b, rx, ry, Out.here (d := D.bl (!decide (a = b))) r o (by simp [reD, RelD])⟩
    | _ => exact o.elim
  | non =>
    simp only [RelD] at ry
    subst ry
    refine .inr ⟨rfl, ?_⟩
    cases x with
    | non => simp only [RelD] at rx; subst rx; exact Out.here (d := D.bl (!true)) r o (by simp [reD, RelD])
    | bl a => simp only [RelD] at rx; subst rx; exact Out.here (d := D.bl (!false)) r o (by simp [reD, RelD])
    | int a => simp only [RelD] at rx; subst rx; exact Out.here (d := D.bl (!false)) r o (by simp [reD, RelD])
    | str a => simp only [RelD] at rx; subst rx; exact Out.here (d := D.bl (!false)) r o (by simp [reD, RelD])
    | fn a => simp only [RelD] at rx; subst rx; exact Out.here (d := D.bl (!false)) r o (by simp [reD, RelD])
    | tup a => simp only [RelD] at rx; obtain ⟨_, _, rfl, _⟩ := rx; exact Out.here (d := D.bl (!false)) r o (by simp [reD, RelD])
    | lst a => simp only [RelD] at rx; obtain ⟨_, _, rfl, _⟩ := rx; exact Out.here (d := D.bl (!false)) r o (by simp [reD, RelD])
    | loc a => simp only [RelD] at rx; obtain ⟨rfl, _⟩ := rx; exact Out.here (d := D.bl (!false)) r o (by simp [reD, RelD])
    | ty a => exact o.elim
  | _ => cases x <;> exact o.elim
end
end Fx

set_option Elab.async false
set_option linter.all false
set_option maxRecDepth 100000
set_option maxHeartbeats 4000000
namespace Fx
open PySem L2

section
variable {X : Cx} {W : WX} {e a b c o i : Expr} {es : List Expr} {m ma mb mc mo mi : SE} {ms : SA} {pos p : Pos} {x : Str}
/-! ### - and chains -/
def mNeg (m : SE) : SE := fun τ st => (m τ st).bind fun d st1 => match d with
  | .int i => .ok (.int (-i)) st1
  | _ => .no
theorem ev_neg (h : EvE X W a ma) : EvE X W (.UnaryOp .USub a pos) (mNeg ma) := PE.imp (pe_un un_neg h) fun σ H Q ⟨ρ, τ, st, r0, en, o⟩ =>
  tM.bind r0 en o fun d st1 ρ1 H1 v e1 r1 en1 q o1 => by
    cases d with
    | int i => simp only [RelD] at q; exact ⟨i, q, o1.here r1 (by simp [reD, RelD])⟩
    | _ => exact o1.elim
def mChain (f g : D → D → Store → Rs D) (ma mb mc : SE) : SE := fun τ st => (ma τ st).bind fun x st1 => (mb τ st1).bind fun y st2 => (f x y st2).bind fun z st3 => match z with
  | .bl true => (mc τ st3).bind fun u st4 => g y u st4
  | .bl false => .ok (.bl false) st3
  | _ => .no
theorem OpS.imp {g : Value → Value → Sem Value} {f : D → D → Store → Rs D} (ho : OpS X g f) : ∃ r, OpR X g r ∧ ∀ (W : WX) (σ : St) (ρ : Mp) (st : Store) (H : Hp) (x y : D) (vx vy : V) (Q : VK), R X.K ρ st H → RelD X.K ρ st.length H x vx → RelD X.K ρ st.length H y vy → Out X.K (reD X.K) W σ ρ st.length H Q (f x y st) → r vx vy H Q := ho
theorem tM.chain {op op' : CmpOp} {f g : D → D → Store → Rs D} {r r' : R2}
    (h2 : ∀ (W : WX) (σ : St) (ρ : Mp) (st : Store) (H : Hp) (x y : D) (vx vy : V) (Q : VK), R X.K ρ st H → RelD X.K ρ st.length H x vx → RelD X.K ρ st.length H y vy → Out X.K (reD X.K) W σ ρ st.length H Q (f x y st) → r vx vy H Q)
    (h3 : ∀ (W : WX) (σ : St) (ρ : Mp) (st : Store) (H : Hp) (x y : D) (vx vy : V) (Q : VK), R X.K ρ st H → RelD X.K ρ st.length H x vx → RelD X.K ρ st.length H y vy → Out X.K (reD X.K) W σ ρ st.length H Q (g x y st) → r' vx vy H Q)
    {σ : St} {H : Hp} {Q : VK} (h : tM X.K (reD X.K) W (mChain f g ma mb mc) σ H Q) : tChain r r' (tM X.K (reD X.K) W ma) (tM X.K (reD X.K) W mb) (tM X.K (reD X.K) W mc) σ H Q := by
  obtain ⟨ρ, τ, st, r0, en, o⟩ := h
  exact tM.bind r0 en o fun x st1 ρ1 H1 vx e1 r1 en1 qx o1 => tM.bind r1 en1 o1 fun y st2 ρ2 H2 vy e2 r2 en2 qy o2 =>
    h2 W σ ρ2 st2 H2 x y vx vy _ r2 (qx.mono e2 r1) qy (Out.bind r2 o2 fun z st3 ρ3 H3 vz e3 r3 qz o3 => by
      cases z with
      | bl k =>
        simp only [reD, RelD] at qz
        refine ⟨k, qz, ?_⟩
        cases k with
        | false => exact o3.here r3 (by simp [reD, RelD])
        | true =>
          rw [if_pos rfl]
          exact tM.bind r3 (en2.mono e3 r2) o3 fun u st4 ρ4 H4 vu e4 r4 en4 qu o4 => h3 W σ ρ4 st4 H4 y u vy vu Q r4 ((qy.mono e3 r2).mono e4 r3) qu o4
      | _ => exact o3.elim)
theorem ev_chain {op op' : CmpOp} {f g : D → D → Store → Rs D} (hf : OpS X (compareOp op) f) (hg : OpS X (compareOp op') g) (ha : EvE X W a ma) (hb : EvE X W b mb) (hc : EvE X W c mc) (hm : lastMarks [op, op'] [b, c] = false := by with_unfolding_all rfl) :
    EvE X W (.Compare a [op, op'] [b, c] pos) (mChain f g ma mb mc) := by
  obtain ⟨r, h1, h2⟩ := hf
  obtain ⟨r', h1', h2'⟩ := hg
  exact PE.imp (pe_chain h1 h1' ha hb hc hm) fun σ H Q h => tM.chain (op := op) (op' := op') h2 h2' h
theorem et_chain {op op' : CmpOp} {f g : D → D → Store → Rs D} (hf : OpS X (compareOp op) f) (hg : OpS X (compareOp op') g) (ha : EvE X W a ma) (hb : EvE X W b mb) (hc : EvE X W c mc) (hm : lastMarks [op, op'] [b, c] = false := by with_unfolding_all rfl) :
    EvB X W (.Compare a [op, op'] [b, c] pos) (mB (mChain f g ma mb mc)) := by
  obtain ⟨r, h1, h2⟩ := hf
  obtain ⟨r', h1', h2'⟩ := hg
  exact PT.imp (pt_chain h1 h1' ha hb hc hm) fun σ H Q h => tM.chain (op := op) (op' := op') h2 h2' (tM.tst h)

/-! ### calls of built-ins -/
abbrev FB (α : Type) := List D → Store → Rs α
def CallS {α : Type} (X : Cx) (Re : Rl α V) (f : Value) (fb : FB α) : Prop :=
  ∃ r, CallR X f r ∧ ∀ (W : WX) (σ : St) (ρ : Mp) (st : Store) (H : Hp) (ds : List D) (vs : List V) (Q : VK), R X.K ρ st H → RelDs X.K ρ st.length H ds vs → Out X.K Re W σ ρ st.length H Q (fb ds st) → r vs H Q
def mFn {α : Type} (fb : FB α) (ms : SA) : En → Store → Rs α := fun τ st => (ms τ st).bind fb
theorem ev_bf {α : Type} {Re : Rl α V} [RlOk X.K Re] {id : String} {fb : FB α} (hc : CallS X Re (.builtin id) fb) (hm : X.mg x = none) (hv : bootBuiltins x = some (.builtin id)) (ha : EvA X W (e :: es) ms) (hg : Gl X x := by rfl) (hn : x ≠ "__name__" := by decide) (hdb : (x == ("__debug__" : Str)) = false := by decide)
    (he : starEach (e :: es) X.env = (false, eval e X.env) :: starEach es X.env := by rfl) (hpl : (backTo pos (starEach es X.env)).any (·.1) = false := by rfl) : PE X (.Call (.Name x p) (e :: es) [] pos) (tM X.K Re W (mFn fb ms)) := by
  obtain ⟨r, h1, h2⟩ := hc
  exact PE.imp (pe_callB h1 hg hm hv ha hn hdb he hpl) fun σ H Q ⟨ρ, τ, st, r0, en, o⟩ => tM.bind r0 en o fun ds st1 ρ1 H1 vs e1 r1 en1 q o1 => h2 W σ ρ1 st1 H1 ds vs Q r1 q o1
theorem ev_bt {α : Type} {Re : Rl α V} [RlOk X.K Re] {id : String} {fb : FB α} (hc : CallS X Re (.type id) fb) (hm : X.mg x = none) (hv : bootBuiltins x = some (.type id)) (ha : EvA X W (e :: es) ms) (hg : Gl X x := by rfl) (hn : x ≠ "__name__" := by decide) (hdb : (x == ("__debug__" : Str)) = false := by decide)
    (he : starEach (e :: es) X.env = (false, eval e X.env) :: starEach es X.env := by rfl) (hpl : (backTo pos (starEach es X.env)).any (·.1) = false := by rfl) : PE X (.Call (.Name x p) (e :: es) [] pos) (tM X.K Re W (mFn fb ms)) := by
  obtain ⟨r, h1, h2⟩ := hc
  exact PE.imp (pe_callTy h1 hg hm hv ha hn hdb he hpl) fun σ H Q ⟨ρ, τ, st, r0, en, o⟩ => tM.bind r0 en o fun ds st1 ρ1 H1 vs e1 r1 en1 q o1 => h2 W σ ρ1 st1 H1 ds vs Q r1 q o1

theorem RelDs.one {K : PySem.W.Frag} {ρ : Mp} {n : Nat} {H : Hp} {d : D} {vs : List V} (h : RelDs K ρ n H [d] vs) : ∃ v, vs = [v] ∧ RelD K ρ n H d v := by
  obtain ⟨v, w, rfl, h1, h2⟩ := h.cases
  exact ⟨v, by rw [h2.nil_eq], h1⟩
theorem RelDs.two {K : PySem.W.Frag} {ρ : Mp} {n : Nat} {H : Hp} {d d2 : D} {vs : List V} (h : RelDs K ρ n H [d, d2] vs) : ∃ v v2, vs = [v, v2] ∧ RelD K ρ n H d v ∧ RelD K ρ n H d2 v2 := by
  obtain ⟨v, w, rfl, h1, h2⟩ := h.cases
  obtain ⟨v2, rfl, h3⟩ := h2.one
  exact ⟨v, v2, rfl, h1, h3⟩
noncomputable def fLen : FB D := fun ds st => match ds with
  | [.str z] => if szFits z.length = true then .ok (.int z.length) st else .no
  | [d] => (match seqOf d st with
    | some xs => .ok (.int xs.length) st
    | none => (match d with
      | .loc i => (match st[i]? with
        | some (.dk kvs) => .ok (.int kvs.length) st
        | _ => .no)
      | _ => .no))
  | _ => .no
theorem Paired.len {α β : Type} {F : α → β → Prop} : ∀ {l₁ : List α} {l₂ : List β}, Paired F l₁ l₂ → l₂.length = l₁.length
  | _, _, .nil => rfl
  | _, _, .cons _ t => by simp [Paired.len t]
theorem cs_len : CallS X (reD X.K) (.builtin "len") fLen := by
  refine ⟨_, (call_len_str.or call_len_seq).or call_lenD, fun W σ ρ st H ds vs Q r rv o => ?_⟩
  match ds, rv, o with
  | [d], rv, o =>
    obtain ⟨v, rfl, rd⟩ := rv.one
    by_cases hs : ∃ z, d = .str z
    · obtain ⟨z, rfl⟩ := hs
      simp only [RelD] at rd
      simp only [fLen] at o
      split at o
      · rename_i h; subst rd; exact .inl (.inl ⟨z, rfl, szFits_iff.mp h, o.here r (by simp [reD, RelD])⟩)
      · exact o.elim
    · have e : fLen [d] st = (match seqOf d st with
        | some xs => .ok (.int xs.length) st
        | none => (match d with
          | .loc i => (match st[i]? with
            | some (.dk kvs) => .ok (.int kvs.length) st
            | _ => .no)
          | _ => .no)) := by
        cases d <;> first | rfl | exact absurd ⟨_, rfl⟩ hs
      rw [e] at o
      cases q : seqOf d st with
      | some xs =>
        rw [q] at o
        obtain ⟨a, us, rfl, h, ru⟩ := seqOf_rel r rd q
        exact .inl (.inr ⟨a, us, rfl, h.imp id SqT.of, o.here r (by simp [reD, RelD, ru.len])⟩)
      | none =>
        rw [q] at o
        cases d with
        | loc i =>
          simp only at o
          cases q2 : st[i]? with
          | none => rw [q2] at o; exact o.elim
          | some ob =>
            rw [q2] at o
            cases ob with
            | dk kvs =>
              simp only [RelD] at rd
              obtain ⟨ws, hw, hp⟩ := r.obj i _ q2
              obtain ⟨rfl, _⟩ := rd
              exact .inr ⟨_, ws, rfl, hw, o.here r (by simp [reD, RelD, Paired.len hp])⟩
            | _ => exact o.elim
        | _ => exact o.elim
  | [], _, o => exact o.elim
  | _ :: _ :: _, _, o => simp [fLen] at o; exact o.elim
def fAbs : FB D := fun ds st => match ds with
  | [.int i] => .ok (.int (if i < 0 then -i else i)) st
  | _ => .no
theorem cs_abs : CallS X (reD X.K) (.builtin "abs") fAbs := by
  refine ⟨_, call_abs, fun W σ ρ st H ds vs Q r rv o => ?_⟩
  match ds, rv, o with
  | [.int i], rv, o =>
    obtain ⟨v, rfl, rd⟩ := rv.one
    simp only [RelD] at rd; subst rd
    exact ⟨i, rfl, o.here r (by simp [reD, RelD])⟩
  | [], _, o => exact o.elim
  | [.non], _, o | [.bl _], _, o | [.str _], _, o | [.ty _], _, o | [.fn _], _, o | [.tup _], _, o | [.lst _], _, o | [.loc _], _, o => exact o.elim
  | _ :: _ :: _, _, o => simp [fAbs] at o; exact o.elim
def fInt : FB D := fun ds st => match ds with
  | [.int i] => .ok (.int i) st
  | [.bl b] => .ok (.int (if b then 1 else 0)) st
  | _ => .no
theorem cs_int : CallS X (reD X.K) (.type "int") fInt := by
  refine ⟨_, call_int1, fun W σ ρ st H ds vs Q r rv o => ?_⟩
  match ds, rv, o with
  | [.int i], rv, o =>
    obtain ⟨v, rfl, rd⟩ := rv.one
    simp only [RelD] at rd; subst rd
    exact .inl ⟨i, rfl, o.here r (by simp [reD, RelD])⟩
  | [.bl i], rv, o =>
    obtain ⟨v, rfl, rd⟩ := rv.one
    simp only [RelD] at rd; subst rd
    exact .inr ⟨i, rfl, o.here r (by simp [reD, RelD])⟩
  | [], _, o => exact o.elim
  | [.non], _, o | [.str _], _, o | [.ty _], _, o | [.fn _], _, o | [.tup _], _, o | [.lst _], _, o | [.loc _], _, o => exact o.elim
  | _ :: _ :: _, _, o => simp [fInt] at o; exact o.elim
def fMin2 : FB D := fun ds st => match ds with
  | [.int i, .int j] => .ok (.int (if j < i then j else i)) st
  | _ => .no
def fMax2 : FB D := fun ds st => match ds with
  | [.int i, .int j] => .ok (.int (if j > i then j else i)) st
  | _ => .no
theorem two_ints {f : Int → Int → D} {ds : List D} {st : Store} {r : Rs D} (h : (match ds with
  | [.int i, .int j] => Rs.ok (f i j) st
  | _ => .no) = r) (hn : r ≠ .no) : ∃ i j, ds = [.int i, .int j] ∧ r = .ok (f i j) st := by
  split at h
  · exact ⟨_, _, rfl, h.symm⟩
  · exact absurd h.symm hn
theorem cs_min2 (hc : X.calm = true) : CallS X (reD X.K) (.builtin "min") fMin2 := by
  refine ⟨_, call_min2 hc, fun W σ ρ st H ds vs Q r rv o => ?_⟩
  obtain ⟨i, j, rfl, e⟩ := two_ints (f := fun i j => .int (if j < i then j else i)) (show fMin2 ds st = fMin2 ds st from rfl) (fun z => by rw [z] at o; exact o)
  rw [e] at o
  obtain ⟨v, v2, rfl, r1, r2⟩ := rv.two
  simp only [RelD] at r1 r2; subst r1; subst r2
  exact ⟨i, j, rfl, o.here r (by simp [reD, RelD])⟩
theorem cs_max2 (hc : X.calm = true) : CallS X (reD X.K) (.builtin "max") fMax2 := by
  refine ⟨_, call_max2 hc, fun W σ ρ st H ds vs Q r rv o => ?_⟩
  obtain ⟨i, j, rfl, e⟩ := two_ints (f := fun i j => .int (if j > i then j else i)) (show fMax2 ds st = fMax2 ds st from rfl) (fun z => by rw [z] at o; exact o)
  rw [e] at o
  obtain ⟨v, v2, rfl, r1, r2⟩ := rv.two
  simp only [RelD] at r1 r2; subst r1; subst r2
  exact ⟨i, j, rfl, o.here r (by simp [reD, RelD])⟩
/-- tuple(x), list(x) of a sequence -/
def fTuple : FB D := fun ds st => match ds with
  | [d] => (match seqOf d st with
    | some xs => .ok (.tup xs) st
    | none => .no)
  | _ => .no
def fList : FB (List D) := fun ds st => match ds with
  | [d] => (match seqOf d st with
    | some xs => .ok xs st
    | none => .no)
  | _ => .no
theorem one_seq {α : Type} {f : List D → α} {ds : List D} {st : Store} {r : Rs α} (h : (match ds with
  | [d] => (match seqOf d st with
    | some xs => Rs.ok (f xs) st
    | none => .no)
  | _ => .no) = r) (hn : r ≠ .no) : ∃ d xs, ds = [d] ∧ seqOf d st = some xs ∧ r = .ok (f xs) st := by
  split at h
  · split at h
    · exact ⟨_, _, rfl, by assumption, h.symm⟩
    · exact absurd h.symm hn
  · exact absurd h.symm hn
theorem cs_tuple : CallS X (reD X.K) (.type "tuple") fTuple := by
  refine ⟨_, call_tuple_of, fun W σ ρ st H ds vs Q r rv o => ?_⟩
  obtain ⟨d, xs, rfl, hx, e⟩ := one_seq (f := D.tup) (show fTuple ds st = fTuple ds st from rfl) (fun z => by rw [z] at o; exact o)
  rw [e] at o
  obtain ⟨v, rfl, rd⟩ := rv.one
  obtain ⟨a, us, rfl, h, ru⟩ := seqOf_rel r rd hx
  rcases h with h | h
  · refine ⟨a, us, rfl, .inl ⟨h, fun l hl => o.free r hl ?_⟩⟩
    simp only [reD, RelD]
    exact ⟨l, us, rfl, upd_same, RelDs.mono (r.push_ext hl) r _ ru⟩
  · exact ⟨a, us, rfl, .inr ⟨SqT.of h, o.here r (by simp only [reD, RelD]; exact ⟨a, us, rfl, h, ru⟩)⟩⟩
theorem Out.fresh' {K : PySem.W.Frag} {ρ : Mp} {st : Store} {H : Hp} {σ : St} {Q : VK} {p : Addr} {ds : List D} {vs : List V} (r0 : R K ρ st H) (h : Out K (reN K) W σ ρ st.length H Q (.ok ds st)) (hp : H p = none) (q : RelDs K ρ st.length H ds vs) : Q (.ref p) (upd H p (.lst vs)) := Out.fresh r0 h hp q
theorem cs_list : CallS X (reN X.K) (.type "list") fList := by
  refine ⟨_, call_list_of, fun W σ ρ st H ds vs Q r rv o => ?_⟩
  obtain ⟨d, xs, rfl, hx, e⟩ := one_seq (f := id) (show fList ds st = fList ds st from rfl) (fun z => by rw [z] at o; exact o)
  rw [e] at o
  obtain ⟨v, rfl, rd⟩ := rv.one
  obtain ⟨a, us, rfl, h, ru⟩ := seqOf_rel r rd hx
  exact ⟨a, us, rfl, h.imp id SqT.of, fun l hl => Out.fresh r o hl ru⟩
/-! lists of ints, of bools -/
def intsOf : List D → Option (List Int)
  | [] => some []
  | .int i :: r => (intsOf r).map (i :: ·)
  | _ :: _ => none
def blsOf : List D → Option (List Bool)
  | [] => some []
  | .bl i :: r => (blsOf r).map (i :: ·)
  | _ :: _ => none
theorem intsOf_eq : ∀ {ds : List D} {ns : List Int}, intsOf ds = some ns → ds = ns.map D.int
  | [], ns, h => by simp [intsOf] at h; subst h; rfl
  | d :: r, ns, h => by
    cases d with
    | int i =>
      simp only [intsOf] at h
      cases e : intsOf r with
      | none => rw [e] at h; cases h
      | some ms => rw [e] at h; cases h; rw [intsOf_eq e]; rfl
    | _ => cases h
theorem blsOf_eq : ∀ {ds : List D} {ns : List Bool}, blsOf ds = some ns → ds = ns.map D.bl
  | [], ns, h => by simp [blsOf] at h; subst h; rfl
  | d :: r, ns, h => by
    cases d with
    | bl i =>
      simp only [blsOf] at h
      cases e : blsOf r with
      | none => rw [e] at h; cases h
      | some ms => rw [e] at h; cases h; rw [blsOf_eq e]; rfl
    | _ => cases h
@[simp] theorem intsOf_map (ns : List Int) : intsOf (ns.map D.int) = some ns := by
  induction ns with
  | nil => rfl
  | cons n r ih => simp [intsOf, ih]
@[simp] theorem blsOf_map (ns : List Bool) : blsOf (ns.map D.bl) = some ns := by
  induction ns with
  | nil => rfl
  | cons n r ih => simp [blsOf, ih]
def onBls (f : List Bool → D) : FB D := fun ds st => match ds with
  | [d] => (match listOf d st with
    | some xs => (match blsOf xs with
      | some bs => .ok (f bs) st
      | none => .no)
    | none => .no)
  | _ => .no
def onInts {α : Type} (f : List Int → α) : FB α := fun ds st => match ds with
  | [d] => (match listOf d st with
    | some xs => (match intsOf xs with
      | some bs => .ok (f bs) st
      | none => .no)
    | none => .no)
  | _ => .no
theorem onBls_ok {f : List Bool → D} {ds : List D} {st : Store} (hn : onBls f ds st ≠ .no) : ∃ d bs, ds = [d] ∧ listOf d st = some (bs.map D.bl) ∧ onBls f ds st = .ok (f bs) st := by
  unfold onBls at hn ⊢
  split
  · split
    · split
      · rename_i h1 _ _ h2; exact ⟨_, _, rfl, by rw [h1, blsOf_eq h2], rfl⟩
      · rename_i h1 _ h2; simp [h1, h2] at hn
    · rename_i h1; simp [h1] at hn
  · rename_i h; split at hn
    · exact absurd rfl (h _)
    · exact absurd rfl hn
theorem onInts_ok {α : Type} {f : List Int → α} {ds : List D} {st : Store} (hn : onInts f ds st ≠ .no) : ∃ d bs, ds = [d] ∧ listOf d st = some (bs.map D.int) ∧ onInts f ds st = .ok (f bs) st := by
  unfold onInts at hn ⊢
  split
  · split
    · split
      · rename_i h1 _ _ h2; exact ⟨_, _, rfl, by rw [h1, intsOf_eq h2], rfl⟩
      · rename_i h1 _ h2; simp [h1, h2] at hn
    · rename_i h1; simp [h1] at hn
  · rename_i h; split at hn
    · exact absurd rfl (h _)
    · exact absurd rfl hn
theorem cs_all (hc : X.calm = true) : CallS X (reD X.K) (.builtin "all") (onBls fun bs => .bl (bs.all id)) := by
  refine ⟨_, cr_all hc, fun W σ ρ st H ds vs Q r rv o => ?_⟩
  obtain ⟨d, bs, rfl, hx, e⟩ := onBls_ok (fun z => by rw [z] at o; exact o)
  rw [e] at o
  obtain ⟨v, rfl, rd⟩ := rv.one
  obtain ⟨a, us, rfl, h, ru⟩ := listOf_rel r rd hx
  rw [ru.bls] at h
  exact ⟨a, bs, rfl, h, o.here r (by simp [reD, RelD])⟩
theorem cs_any (hc : X.calm = true) : CallS X (reD X.K) (.builtin "any") (onBls fun bs => .bl (bs.any id)) := by
  refine ⟨_, cr_any hc, fun W σ ρ st H ds vs Q r rv o => ?_⟩
  obtain ⟨d, bs, rfl, hx, e⟩ := onBls_ok (fun z => by rw [z] at o; exact o)
  rw [e] at o
  obtain ⟨v, rfl, rd⟩ := rv.one
  obtain ⟨a, us, rfl, h, ru⟩ := listOf_rel r rd hx
  rw [ru.bls] at h
  exact ⟨a, bs, rfl, h, o.here r (by simp [reD, RelD])⟩
theorem cs_sum (hc : X.calm = true) : CallS X (reD X.K) (.builtin "sum") (onInts fun ns => .int ns.sum) := by
  refine ⟨_, cr_sum hc, fun W σ ρ st H ds vs Q r rv o => ?_⟩
  obtain ⟨d, bs, rfl, hx, e⟩ := onInts_ok (fun z => by rw [z] at o; exact o)
  rw [e] at o
  obtain ⟨v, rfl, rd⟩ := rv.one
  obtain ⟨a, us, rfl, h, ru⟩ := listOf_rel r rd hx
  rw [ru.ints] at h
  exact ⟨a, bs, rfl, h, o.here r (by simp [reD, RelD])⟩
/-- the ints in order -/
def insI (n : Int) : List Int → List Int
  | [] => [n]
  | m :: r => if n ≤ m then n :: m :: r else m :: insI n r
def sortI : List Int → List Int
  | [] => []
  | n :: r => insI n (sortI r)
theorem insI_perm (n : Int) : ∀ l : List Int, (insI n l).Perm (n :: l)
  | [] => .refl _
  | m :: r => by
    unfold insI
    split
    · exact .refl _
    · exact ((insI_perm n r).cons m).trans (.swap n m r)
theorem sortI_perm : ∀ l : List Int, (sortI l).Perm l
  | [] => .refl _
  | n :: r => (insI_perm n (sortI r)).trans ((sortI_perm r).cons n)
theorem insI_sorted (n : Int) : ∀ {l : List Int}, l.Pairwise (· ≤ ·) → (insI n l).Pairwise (· ≤ ·)
  | [], _ => List.pairwise_singleton _ _
  | m :: r, h => by
    unfold insI
    split
    · rename_i hnm
      refine List.pairwise_cons.mpr ⟨fun x hx => ?_, h⟩
      rcases List.mem_cons.mp hx with rfl | hx
      · exact hnm
      · exact Int.le_trans hnm ((List.pairwise_cons.mp h).1 x hx)
    · rename_i hnm
      refine List.pairwise_cons.mpr ⟨fun x hx => ?_, insI_sorted n (List.pairwise_cons.mp h).2⟩
      rcases List.mem_cons.mp ((insI_perm n r).mem_iff.mp hx) with rfl | hx
      · omega
      · exact (List.pairwise_cons.mp h).1 x hx
theorem sortI_sorted : ∀ l : List Int, (sortI l).Pairwise (· ≤ ·)
  | [] => .nil
  | n :: r => insI_sorted n (sortI_sorted r)
theorem sorted_uniq : ∀ {l l' : List Int}, l.Perm l' → l.Pairwise (· ≤ ·) → l'.Pairwise (· ≤ ·) → l = l'
  | [], l', p, _, _ => by rw [List.nil_perm] at p; exact p.symm
  | x :: r, l', p, h, h' => by
    cases l' with
    | nil => exact absurd p.length_eq (by simp)
    | cons y s =>
      have hx : x ∈ y :: s := p.mem_iff.mp List.mem_cons_self
      have hy : y ∈ x :: r := p.mem_iff.mpr List.mem_cons_self
      have e : x = y := by
        rcases List.mem_cons.mp hx with e | hx
        · exact e
        · rcases List.mem_cons.mp hy with e | hy
          · exact e.symm
          · exact Int.le_antisymm ((List.pairwise_cons.mp h).1 y hy) ((List.pairwise_cons.mp h').1 x hx)
      subst e
      rw [sorted_uniq (List.Perm.cons_inv p) (List.pairwise_cons.mp h).2 (List.pairwise_cons.mp h').2]
theorem cs_sorted : CallS X (reN X.K) (.builtin "sorted") (onInts fun ns => (sortI ns).map D.int) := by
  refine ⟨_, cr_sortedI, fun W σ ρ st H ds vs Q r rv o => ?_⟩
  obtain ⟨d, bs, rfl, hx, e⟩ := onInts_ok (fun z => by rw [z] at o; exact o)
  rw [e] at o
  obtain ⟨v, rfl, rd⟩ := rv.one
  obtain ⟨a, us, rfl, h, ru⟩ := listOf_rel r rd hx
  rw [ru.ints] at h
  refine ⟨a, bs, rfl, h, fun ns' p h1 h2 hp => ?_⟩
  have e' : ns' = sortI bs := sorted_uniq (h1.trans (sortI_perm bs).symm) h2 (sortI_sorted bs)
  subst e'
  exact Out.fresh r o hp RelDs.ints'
end
end Fx

set_option Elab.async false
set_option linter.all false
set_option maxRecDepth 100000
set_option maxHeartbeats 4000000
namespace Fx
open PySem L2

section
variable {X : Cx} {W : WX} {e a b c o i value : Expr} {es : List Expr} {m ma mb mc mo mi mv : SE} {ms : SA} {pos p pos' apos cpos : Pos} {x : Str}
/-! ### x[i] -/
noncomputable def fIx : D → D → Store → Rs D := fun x y st => match y with
  | .int k => (match seqOf x st with
    | some xs => (match atI xs k with
      | some d => .ok d st
      | none => .no)
    | none => (match x with
      | .str z => if szFits z.length = true then (match atI z.cps.toList k with
        | some c => .ok (.str ⟨#[c]⟩) st
        | none => .no) else .no
      | _ => .no))
  | _ => .no
theorem RelDs.atI {K : PySem.W.Frag} {ρ : Mp} {n : Nat} {H : Hp} {ds : List D} {vs : List V} (h : RelDs K ρ n H ds vs) {k : Int} {d : D} (e : L2.atI ds k = some d) : ∃ v, L2.atI vs k = some v ∧ RelD K ρ n H d v := by
  unfold L2.atI at e ⊢
  rw [h.len]
  cases q : ixN ds.length k with
  | none => rw [q] at e; cases e
  | some j => rw [q] at e; simp only [Option.bind_some] at e ⊢; exact h.get e
theorem ev_ix (ha : EvE X W a ma) (hb : EvE X W b mb) (hs : PlainIx b := by exact fun _ _ => rfl) : EvE X W (.Subscript a b pos) (mOp fIx ma mb) := PE.imp (pe_ix ix_seq ha hb hs) fun σ H Q h =>
  tM.op (X := X) (W := W) (fun W σ ρ st H x y vx vy Q r rx ry o => by
    cases y with
    | int k =>
      simp only [RelD] at ry
      subst ry
      simp only [fIx] at o
      cases q : seqOf x st with
      | some xs =>
        rw [q] at o
        simp only at o
        cases q2 : L2.atI xs k with
        | none => rw [q2] at o; exact o.elim
        | some d =>
          rw [q2] at o
          obtain ⟨p, us, rfl, h, ru⟩ := seqOf_rel r rx q
          obtain ⟨v, h1, h2⟩ := ru.atI q2
          rcases h with h | h
          · exact .inl ⟨p, us, k, v, rfl, rfl, h, h1, o.here r h2⟩
          · exact .inr (.inl ⟨p, us, k, v, rfl, rfl, SqT.of h, h1, o.here r h2⟩)
      | none =>
        rw [q] at o
        cases x with
        | str z =>
          simp only at o
          split at o
          · rename_i hz
            cases q2 : L2.atI z.cps.toList k with
            | none => rw [q2] at o; exact o.elim
            | some c =>
              rw [q2] at o
              simp only [RelD] at rx
              exact .inr (.inr ⟨z, k, c, rx, rfl, (szFits_iff.mp hz), q2, o.here r (by simp [reD, RelD])⟩)
          · exact o.elim
        | _ => exact o.elim
    | _ => exact o.elim) h

/-! ### slices -/
abbrev reO : Rl (Option Int) (Option Int) := fun _ _ _ _ a b => a = b
instance {K : PySem.W.Frag} : RlOk K reO := ⟨fun _ _ h => h⟩
abbrev SO := En → Store → Rs (Option Int)
abbrev EvO (X : Cx) (W : WX) (e : Option Expr) (m : SO) : Prop := PO X e (tM X.K reO W m)
def mNoPart : SO := fun _ st => .ok none st
def mPart (m : SE) : SO := fun τ st => (m τ st).bind fun d st1 => match d with
  | .int i => .ok (some i) st1
  | _ => .no
theorem PO.imp {e : Option Expr} {t t' : St → Hp → (Option Int → Hp → Prop) → Prop} (h : PO X e t) (hi : ∀ σ H Q, t' σ H Q → t σ H Q) : PO X e t' := ⟨fun pins s σ H Q I q => h.run pins s σ H Q I (hi _ _ _ q)⟩
theorem eo_none : EvO X W none mNoPart := PO.imp po_none fun σ H Q ⟨ρ, τ, st, r0, en, o⟩ => o.here r0 rfl
theorem eo_some (h : EvE X W e m) : EvO X W (some e) (mPart m) := PO.imp (po_some h) fun σ H Q ⟨ρ, τ, st, r0, en, o⟩ =>
  tM.bind r0 en o fun d st1 ρ1 H1 v e1 r1 en1 q o1 => by
    cases d with
    | int k => simp only [RelD] at q; exact ⟨k, q, o1.here r1 rfl⟩
    | _ => exact o1.elim
def cutD (xs : List D) (lo hi : Option Int) : List D := (xs.drop (HT.sIx xs.length 0 lo)).take (HT.sIx xs.length xs.length hi - HT.sIx xs.length 0 lo)
theorem RelDs.cut {K : PySem.W.Frag} {ρ : Mp} {n : Nat} {H : Hp} {ds : List D} {vs : List V} (h : RelDs K ρ n H ds vs) (lo hi : Option Int) : RelDs K ρ n H (cutD ds lo hi) (cutV vs lo hi) := by
  unfold cutD cutV
  rw [h.len]
  exact (h.drop _).take _
/-- a slice: of a tuple a tuple, of a list a list that is only read -/
def fSl (x : D) (lo hi : Option Int) (st : Store) : Rs D := match x with
  | .tup xs => .ok (.tup (cutD xs lo hi)) st
  | x => (match listOf x st with
    | some xs => .ok (.lst (cutD xs lo hi)) st
    | none => .no)
def mSl (f : D → Option Int → Option Int → Store → Rs D) (m : SE) (ml mh : SO) : SE := fun τ st => (m τ st).bind fun d st1 => (ml τ st1).bind fun lo st2 => (mh τ st2).bind fun hi st3 => f d lo hi st3
theorem ev_sl {lo hi : Option Expr} {ml mh : SO} (ha : EvE X W a ma) (hl : EvO X W lo ml) (hh : EvO X W hi mh) : EvE X W (.Subscript a (.Slice lo hi none p) pos) (mSl fSl ma ml mh) :=
  PE.imp (pe_slice (sl_tupA.or sl_list) ha hl hh) fun σ H Q ⟨ρ, τ, st, r0, en, o⟩ => tM.bind r0 en o fun d st1 ρ1 H1 v e1 r1 en1 q o1 => tM.bind r1 en1 o1 fun l st2 ρ2 H2 l' e2 r2 en2 q2 o2 => tM.bind r2 en2 o2 fun h st3 ρ3 H3 h' e3 r3 en3 q3 o3 => by
    cases (show l = l' from q2)
    cases (show h = h' from q3)
    have q' := (q.mono e2 r1).mono e3 r2
    have gen : ∀ {xs : List D}, listOf d st3 = some xs → Out X.K (reD X.K) W σ ρ3 st3.length H3 Q (.ok (.lst (cutD xs l h)) st3) → rSlL X.K v l h H3 Q := fun {xs} hx ox => by
      obtain ⟨p, us, rfl, hs, ru⟩ := listOf_rel r3 q' hx
      refine ⟨p, us, rfl, hs, fun y hy => ox.free r3 hy ?_⟩
      simp only [reD, RelD]
      exact ⟨y, _, rfl, .inl ⟨.inl upd_same, r3.ne_none hy, r3.nh_none hy⟩, RelDs.mono (r3.push_ext hy) r3 _ (ru.cut l h)⟩
    cases d with
    | tup xs =>
      simp only [fSl] at o3
      simp only [RelD] at q'
      obtain ⟨p, us, rfl, hs, ru⟩ := q'
      refine .inl ⟨p, us, rfl, SqT.of hs, fun hw => o3.here r3 ?_, fun hw y hy => o3.free r3 hy ?_⟩
      · simp only [reD, RelD]
        have e : cutD xs l h = xs := by
          unfold cutD
          rw [ru.len] at hw
          rw [hw.1, hw.2]
          simp
        rw [e]
        exact ⟨p, us, rfl, hs, ru⟩
      · simp only [reD, RelD]
        exact ⟨y, _, rfl, upd_same, RelDs.mono (r3.push_ext hy) r3 _ (ru.cut l h)⟩
    | lst xs => exact .inr (gen (xs := xs) rfl o3)
    | loc k =>
      simp only [fSl] at o3
      cases e : listOf (.loc k) st3 with
      | none => rw [e] at o3; exact o3.elim
      | some xs => rw [e] at o3; exact .inr (gen e o3)
    | _ => exact o3.elim
/-- xs[::-1] of a list, as a list that is only read -/
def mRevL (m : SE) : SA := fun τ st => (m τ st).bind fun d st1 => match listOf d st1 with
  | some xs => .ok xs.reverse st1
  | none => .no
theorem ef_revL {k : Nat} {p1 p2 p3 : Pos} (ha : EvE X W a ma) : EvF X W (.Subscript a (.Slice none none (some (.UnaryOp .USub (.Constant (.int 1) k p1) p2)) p3) pos) (mRevL ma) :=
  PE.imp (pe_revL ha) fun σ H Q ⟨ρ, τ, st, r0, en, o⟩ => tM.bind r0 en o fun d st1 ρ1 H1 v e1 r1 en1 q o1 => by
    cases e : listOf d st1 with
    | none => rw [e] at o1; exact o1.elim
    | some xs =>
      rw [e] at o1
      obtain ⟨p, us, rfl, hs, ru⟩ := listOf_rel r1 q e
      exact ⟨p, us, rfl, hs, fun y hy => Out.fresh r1 o1 hy ru.reverse⟩

/-! ### xs[i] = v -/
def fSetL (ob k d : D) (st : Store) : Option Store := match ob, k with
  | .loc n, .int k => (match st[n]? with
    | some (.lst xs) => (match ixN xs.length k with
      | some j => some (st.set n (.lst (xs.set j d)))
      | none => none)
    | _ => none)
  | _, _ => none
def sSub (f : D → D → D → Store → Option Store) (mo mi m : SE) : SS := fun τ st => (m τ st).go τ fun d st1 => (mo τ st1).go τ fun ob st2 => (mi τ st2).go τ fun k st3 => match f ob k d st3 with
  | some st4 => .nx τ st4
  | none => .no
theorem setL_ok {K : PySem.W.Frag} {ρ : Mp} {st st' : Store} {H : Hp} {ob k d : D} {vo vk vd : V} (r : R K ρ st H) (ro : RelD K ρ st.length H ob vo) (rk : RelD K ρ st.length H k vk) (rd : RelD K ρ st.length H d vd) (h : fSetL ob k d st = some st') {Q : Hp → Prop}
    (q : ∀ H', Ext ρ st.length H ρ st'.length H' → R K ρ st' H' → Q H') : rSetL vo vk vd H Q := by
  cases ob with
  | loc n =>
    cases k with
    | int k =>
      simp only [fSetL] at h
      cases e : st[n]? with
      | none => rw [e] at h; cases h
      | some ob =>
        rw [e] at h
        cases ob with
        | lst xs =>
          simp only at h
          cases e2 : ixN xs.length k with
          | none => rw [e2] at h; cases h
          | some j =>
            rw [e2] at h
            cases h
            obtain ⟨hl, rfl, vs, hv, rv⟩ := loc_rel r ro e
            simp only [RelD] at rk
            subst rk
            refine ⟨_, vs, k, j, rfl, rfl, hv, by rw [rv.len]; exact e2, q _ ?_ (r.set hl ⟨_, upd_same, ?_⟩)⟩
            · rw [List.length_set]; exact r.set_ext hl
            · exact RelDs.mono (r.set_ext hl) r _ (rv.set rd j)
        | _ => cases h
    | _ => cases h
  | _ => cases h
theorem es_sub (ho : EvE X W o mo) (hi : EvE X W i mi) (hv : EvE X W value mv) (hs : swapsWithSole [.Subscript o i pos'] value pos.line X.env = pure false := by rfl) (hw : swappedStores [.Subscript o i pos'] value X.env = pure none := by rfl)
    (h1 : (assignEach [.Subscript o i pos'] X.env).map (·.2) = [assign (.Subscript o i pos') X.env] := by rfl)
    (ha : ∀ v, assign (.Subscript o i pos') X.env v = (do
      let ov ← holding [v] (eval o X.env)
      let iv ← holding [v, ov] (eval i X.env)
      standAt pos'
      holding [v, ov, iv] (setItem ov iv v)
      release [v, ov, iv] []) := by intro _; rfl) : EvS X W (.Assign [.Subscript o i pos'] value pos) (sSub fSetL mo mi mv) :=
  PS.imp (ps_asg hv (pg_sub ho hi set_list ha) hs hw h1) fun D σ H ⟨ρ, τ, st, r0, en, oo⟩ => tM.goS r0 en oo fun d st1 ρ1 H1 v e1 r1 en1 q o1 => tM.goS r1 en1 o1 fun ob st2 ρ2 H2 vo e2 r2 en2 q2 o2 => tM.goS r2 en2 o2 fun k st3 ρ3 H3 vk e3 r3 en3 q3 o3 => by
    cases e : fSetL ob k d st3 with
    | none => rw [e] at o3; exact o3.elim
    | some st4 =>
      rw [e] at o3
      exact setL_ok r3 (q2.mono e3 r2) q3 ((q.mono e2 r1).mono e3 r2) e fun H' ex r4 => o3 ρ3 H' σ ex r4 (en3.mono ex r3)

/-! ### dicts -/
def keyOf : D → Option Key
  | .int i => some (.inl i)
  | .str x => some (.inr x)
  | _ => none
def keysOf : List D → Option (List Key)
  | [] => some []
  | d :: r => match keyOf d, keysOf r with
    | some k, some ks => some (k :: ks)
    | _, _ => none
theorem keyOf_rel {K : PySem.W.Frag} {ρ : Mp} {n : Nat} {H : Hp} {d : D} {v : V} {k : Key} (h : RelD K ρ n H d v) (e : keyOf d = some k) : v = kV k := by
  cases d with
  | int i => simp only [RelD] at h; cases e; exact h
  | str i => simp only [RelD] at h; cases e; exact h
  | _ => cases e
theorem keysOf_rel {K : PySem.W.Frag} {ρ : Mp} {n : Nat} {H : Hp} : ∀ {ds : List D} {vs : List V} {ks : List Key}, RelDs K ρ n H ds vs → keysOf ds = some ks → vs = ks.map kV
  | [], vs, ks, h, e => by simp [keysOf] at e; subst e; exact h.nil_eq
  | d :: r, vs, ks, h, e => by
    obtain ⟨v, w, rfl, h1, h2⟩ := h.cases
    simp only [keysOf] at e
    cases q : keyOf d with
    | none => rw [q] at e; cases e
    | some k =>
      cases q2 : keysOf r with
      | none => rw [q, q2] at e; cases e
      | some ks' =>
        rw [q, q2] at e
        cases e
        rw [keyOf_rel h1 q, keysOf_rel h2 q2]; rfl
section
variable {κ : Type} [DecidableEq κ]
def valD (kvs : List (κ × D)) (k : κ) : Option D := (kvs.find? fun kv => decide (kv.1 = k)).map (·.2)
def putD (kvs : List (κ × D)) (k : κ) (v : D) : List (κ × D) :=
  if (kvs.any fun kv => decide (kv.1 = k)) = true then kvs.map (fun kv => if kv.1 = k then (kv.1, v) else kv) else kvs ++ [(k, v)]
variable {K : PySem.W.Frag} {ρ : Mp} {n : Nat} {H : Hp}
abbrev PairR (K : PySem.W.Frag) (ρ : Mp) (n : Nat) (H : Hp) : List (κ × D) → List (κ × V) → Prop := Paired fun p q => p.1 = q.1 ∧ RelD K ρ n H p.2 q.2
theorem PairR.val {kvs : List (κ × D)} {ws : List (κ × V)} (h : PairR K ρ n H kvs ws) (k : κ) : (valD kvs k = none ∧ valV ws k = none) ∨ ∃ d v, valD kvs k = some d ∧ valV ws k = some v ∧ RelD K ρ n H d v := by
  induction h with
  | nil => exact .inl ⟨rfl, rfl⟩
  | @cons p q l₁ l₂ h t ih =>
    by_cases e : p.1 = k
    · refine .inr ⟨p.2, q.2, ?_, valV_pos (h.1.symm.trans e), h.2⟩
      unfold valD; rw [List.find?_cons, decide_eq_true e]; rfl
    · have e' : ¬ q.1 = k := fun z => e (h.1.trans z)
      rw [valV_neg e']
      have : valD (p :: l₁) k = valD l₁ k := by unfold valD; rw [List.find?_cons, decide_eq_false e]
      rw [this]; exact ih
theorem PairR.any {kvs : List (κ × D)} {ws : List (κ × V)} (h : PairR K ρ n H kvs ws) (k : κ) : (kvs.any fun kv => decide (kv.1 = k)) = (ws.any fun kv => decide (kv.1 = k)) := by
  induction h with
  | nil => rfl
  | cons h t ih => rw [List.any_cons, List.any_cons, ih, h.1]
theorem PairR.snoc {kvs : List (κ × D)} {ws : List (κ × V)} (h : PairR K ρ n H kvs ws) {k : κ} {d : D} {v : V} (r : RelD K ρ n H d v) : PairR K ρ n H (kvs ++ [(k, d)]) (ws ++ [(k, v)]) := by
  induction h with
  | nil => exact .cons ⟨rfl, r⟩ .nil
  | cons h t ih => exact .cons h ih
theorem PairR.map {kvs : List (κ × D)} {ws : List (κ × V)} (h : PairR K ρ n H kvs ws) {k : κ} {d : D} {v : V} (r : RelD K ρ n H d v) :
    PairR K ρ n H (kvs.map fun kv => if kv.1 = k then (kv.1, d) else kv) (ws.map fun kv => if kv.1 = k then (kv.1, v) else kv) := by
  induction h with
  | nil => exact .nil
  | @cons p q l₁ l₂ h t ih =>
    refine .cons ?_ ih
    show (if p.1 = k then (p.1, d) else p).1 = (if q.1 = k then (q.1, v) else q).1 ∧ RelD K ρ n H (if p.1 = k then (p.1, d) else p).2 (if q.1 = k then (q.1, v) else q).2
    by_cases e : p.1 = k
    · rw [if_pos e, if_pos (h.1.symm.trans e)]; exact ⟨h.1, r⟩
    · rw [if_neg e, if_neg (fun z => e (h.1.trans z))]; exact h
theorem PairR.put {kvs : List (κ × D)} {ws : List (κ × V)} (h : PairR K ρ n H kvs ws) {k : κ} {d : D} {v : V} (r : RelD K ρ n H d v) : PairR K ρ n H (putD kvs k d) (putK ws k v) := by
  unfold putD putK
  rw [h.any k]
  split
  · exact h.map r
  · exact h.snoc r
end
/-- d[k], where it is there -/
def dGet (ob k : D) (st : Store) : Option (Option D) := match ob with
  | .loc n => (match st[n]? with
    | some (.dk kvs) => (match keyOf k with
      | some q => some (valD kvs q)
      | none => none)
    | some (.dt kvs) => (match k with
      | .tup ks => (match keysOf ks with
        | some q => some (valD kvs q)
        | none => none)
      | _ => none)
    | _ => none)
  | _ => none
theorem dGet_rel {K : PySem.W.Frag} {ρ : Mp} {st : Store} {H : Hp} {ob k : D} {vo vk : V} {res : Option D} (r : R K ρ st H) (ro : RelD K ρ st.length H ob vo) (rk : RelD K ρ st.length H k vk) (h : dGet ob k st = some res) :
    ∃ a w, vo = .ref a ∧ DGet H a vk w ∧ ((res = none ∧ w = none) ∨ ∃ d v, res = some d ∧ w = some v ∧ RelD K ρ st.length H d v) := by
  cases ob with
  | loc n =>
    simp only [dGet] at h
    simp only [RelD] at ro
    obtain ⟨rfl, hl⟩ := ro
    cases e : st[n]? with
    | none => rw [e] at h; cases h
    | some ob =>
      rw [e] at h
      cases ob with
      | dk kvs =>
        simp only at h
        cases q : keyOf k with
        | none => rw [q] at h; cases h
        | some kk =>
          rw [q] at h
          cases h
          obtain ⟨ws, hw, hp⟩ := r.obj n _ e
          rw [keyOf_rel rk q]
          refine ⟨_, valV ws kk, rfl, DGet.k hw, ?_⟩
          rcases PairR.val hp kk with ⟨h1, h2⟩ | ⟨d, v, h1, h2, h3⟩
          · exact .inl ⟨h1, h2⟩
          · exact .inr ⟨d, v, h1, h2, h3⟩
      | dt kvs =>
        cases k with
        | tup ks =>
          simp only at h
          cases q : keysOf ks with
          | none => rw [q] at h; cases h
          | some kk =>
            rw [q] at h
            cases h
            obtain ⟨ws, hw, hp⟩ := r.obj n _ e
            simp only [RelD] at rk
            obtain ⟨b, us, rfl, hb, ru⟩ := rk
            rw [keysOf_rel ru q] at hb
            refine ⟨_, valV ws kk, rfl, DGet.t hw hb, ?_⟩
            rcases PairR.val hp kk with ⟨h1, h2⟩ | ⟨d, v, h1, h2, h3⟩
            · exact .inl ⟨h1, h2⟩
            · exact .inr ⟨d, v, h1, h2, h3⟩
        | _ => cases h
      | lst xs => cases h
  | _ => cases h
def fDGet : D → D → Store → Rs D := fun ob k st => match dGet ob k st with
  | some (some d) => .ok d st
  | _ => .no
def fDIn (b : Bool) : D → D → Store → Rs D := fun k ob st => match dGet ob k st with
  | some (some _) => .ok (.bl b) st
  | some none => .ok (.bl (!b)) st
  | none => .no
theorem ev_dget (hu : X.A.units + 1 < cLine) (ho : EvE X W o mo) (hi : EvE X W i mi) (hs : NoSl i := by exact fun _ _ => rfl) : EvE X W (.Subscript o i pos) (mOp fDGet mo mi) := PE.imp (pe_dget hu ho hi hs) fun σ H Q ⟨ρ, τ, st, r0, en, oo⟩ =>
  tM.bind r0 en oo fun ob st1 ρ1 H1 vo e1 r1 en1 q o1 => tM.bind r1 en1 o1 fun k st2 ρ2 H2 vk e2 r2 en2 q2 o2 => by
    simp only [fDGet] at o2
    cases e : dGet ob k st2 with
    | none => rw [e] at o2; exact o2.elim
    | some res =>
      rw [e] at o2
      obtain ⟨a, w, rfl, g, z⟩ := dGet_rel r2 (q.mono e2 r1) q2 e
      rcases z with ⟨rfl, rfl⟩ | ⟨d, v, rfl, rfl, rd⟩
      · exact o2.elim
      · exact ⟨a, v, rfl, g, o2.here r2 rd⟩
theorem tM.din {bb : Bool} {σ : St} {H : Hp} {Q : VK} (h : tM X.K (reD X.K) W (mOp (fDIn bb) mi mo) σ H Q) :
    tM X.K (reD X.K) W mi σ H fun y H1 => tM X.K (reD X.K) W mo σ H1 fun x H2 => ∃ a o, x = .ref a ∧ DGet H2 a y o ∧ Q (.bl (if bb = true then o.isSome else !o.isSome)) H2 := by
  obtain ⟨ρ, τ, st, r0, en, oo⟩ := h
  exact tM.bind r0 en oo fun k st1 ρ1 H1 vk e1 r1 en1 q o1 => tM.bind r1 en1 o1 fun ob st2 ρ2 H2 vo e2 r2 en2 q2 o2 => by
    simp only [fDIn] at o2
    cases e : dGet ob k st2 with
    | none => rw [e] at o2; exact o2.elim
    | some res =>
      rw [e] at o2
      obtain ⟨a, w, rfl, g, z⟩ := dGet_rel r2 q2 (q.mono e2 r1) e
      refine ⟨a, w, rfl, g, ?_⟩
      rcases z with ⟨rfl, rfl⟩ | ⟨d, v, rfl, rfl, rd⟩
      · exact o2.here r2 (by cases bb <;> simp [reD, RelD])
      · exact o2.here r2 (by cases bb <;> simp [reD, RelD])
theorem ev_din (hu : X.A.units + 1 < cLine) (hi : EvE X W i mi) (ho : EvE X W o mo) (hm : behindInMarks .In o = false := by rfl) : EvE X W (.Compare i [.In] [o] pos) (mOp (fDIn true) mi mo) := PE.imp (pe_cmp (pc_din hu hi ho) hm) fun σ H Q h => tM.din h
theorem ev_dnotin (hu : X.A.units + 1 < cLine) (hi : EvE X W i mi) (ho : EvE X W o mo) (hm : behindInMarks .NotIn o = false := by rfl) : EvE X W (.Compare i [.NotIn] [o] pos) (mOp (fDIn false) mi mo) := PE.imp (pe_cmp (pc_dnotin hu hi ho) hm) fun σ H Q h => tM.din h
theorem et_din (hu : X.A.units + 1 < cLine) (hi : EvE X W i mi) (ho : EvE X W o mo) (hm : behindInMarks .In o = false := by rfl) : EvB X W (.Compare i [.In] [o] pos) (mB (mOp (fDIn true) mi mo)) := PT.imp (pt_cmp (pc_din hu hi ho) hm) fun σ H Q h => tM.din (tM.tst h)
theorem et_dnotin (hu : X.A.units + 1 < cLine) (hi : EvE X W i mi) (ho : EvE X W o mo) (hm : behindInMarks .NotIn o = false := by rfl) : EvB X W (.Compare i [.NotIn] [o] pos) (mB (mOp (fDIn false) mi mo)) := PT.imp (pt_cmp (pc_dnotin hu hi ho) hm) fun σ H Q h => tM.din (tM.tst h)
def mDNewK : SE := fun _ st => .ok (.loc st.length) (st ++ [.dk []])
def mDNewT : SE := fun _ st => .ok (.loc st.length) (st ++ [.dt []])
theorem ev_dnewK : EvE X W (.Dict [] [] pos) mDNewK := PE.imp pe_dnewK fun σ H Q ⟨ρ, τ, st, r0, en, o⟩ => fun p hp => Out.alloc (α := Unit) r0 o hp ⟨[], upd_same, .nil⟩
theorem ev_dnewT : EvE X W (.Dict [] [] pos) mDNewT := PE.imp pe_dnewT fun σ H Q ⟨ρ, τ, st, r0, en, o⟩ => fun p hp => Out.alloc (α := Unit) r0 o hp ⟨[], upd_same, .nil⟩
noncomputable def fSetD (ob k d : D) (st : Store) : Option Store := match ob with
  | .loc n => (match st[n]? with
    | some (.dk kvs) => (match keyOf k with
      | some q => if szFits (kvs.length + 1) = true then some (st.set n (.dk (putD kvs q d))) else none
      | none => none)
    | some (.dt kvs) => (match k with
      | .tup ks => (match keysOf ks with
        | some q => if szFits (kvs.length + 1) = true then some (st.set n (.dt (putD kvs q d))) else none
        | none => none)
      | _ => none)
    | _ => none)
  | _ => none
theorem setD_ok {K : PySem.W.Frag} {ρ : Mp} {st st' : Store} {H : Hp} {ob k d : D} {vo vk vd : V} (r : R K ρ st H) (ro : RelD K ρ st.length H ob vo) (rk : RelD K ρ st.length H k vk) (rd : RelD K ρ st.length H d vd) (h : fSetD ob k d st = some st') :
    ∃ a H', vo = .ref a ∧ DPut H a vk vd H' ∧ Ext ρ st.length H ρ st'.length H' ∧ R K ρ st' H' := by
  cases ob with
  | loc n =>
    simp only [fSetD] at h
    simp only [RelD] at ro
    obtain ⟨rfl, hl⟩ := ro
    cases e : st[n]? with
    | none => rw [e] at h; cases h
    | some ob =>
      rw [e] at h
      cases ob with
      | dk kvs =>
        simp only at h
        cases q : keyOf k with
        | none => rw [q] at h; cases h
        | some kk =>
          rw [q] at h
          simp only at h
          split at h
          · rename_i hz
            cases h
            obtain ⟨ws, hw, hp⟩ := r.obj n _ e
            rw [keyOf_rel rk q]
            refine ⟨_, _, rfl, DPut.k hw (by rw [Paired.len hp]; exact (szFits_lt.mp hz)), ?_, r.set hl ⟨_, upd_same, ?_⟩⟩
            · rw [List.length_set]; exact r.set_ext hl
            · exact Paired.monoP (PairR.put hp rd) fun p q z => ⟨z.1, RelD.mono z.2 (r.set_ext hl) r⟩
          · cases h
      | dt kvs =>
        cases k with
        | tup ks =>
          simp only at h
          cases q : keysOf ks with
          | none => rw [q] at h; cases h
          | some kk =>
            rw [q] at h
            simp only at h
            split at h
            · rename_i hz
              cases h
              obtain ⟨ws, hw, hp⟩ := r.obj n _ e
              simp only [RelD] at rk
              obtain ⟨b, us, rfl, hb, ru⟩ := rk
              rw [keysOf_rel ru q] at hb
              refine ⟨_, _, rfl, DPut.t hw hb (by rw [Paired.len hp]; exact (szFits_lt.mp hz)), ?_, r.set hl ⟨_, upd_same, ?_⟩⟩
              · rw [List.length_set]; exact r.set_ext hl
              · exact Paired.monoP (PairR.put hp rd) fun p q z => ⟨z.1, RelD.mono z.2 (r.set_ext hl) r⟩
            · cases h
        | _ => cases h
      | lst xs => cases h
  | _ => cases h
theorem es_dput (hu : X.A.units + 1 < cLine) (ho : EvE X W o mo) (hi : EvE X W i mi) (hv : EvE X W value mv) (hs : swapsWith value (some (.Subscript o i pos')) pos.line X.env = pure false := by rfl) :
    EvS X W (.Assign [.Subscript o i pos'] value pos) (sSub fSetD mo mi mv) :=
  PS.imp (ps_dput hu ho hi hv hs) fun D σ H ⟨ρ, τ, st, r0, en, oo⟩ => tM.goS r0 en oo fun d st1 ρ1 H1 v e1 r1 en1 q o1 => tM.goS r1 en1 o1 fun ob st2 ρ2 H2 vo e2 r2 en2 q2 o2 => tM.goS r2 en2 o2 fun k st3 ρ3 H3 vk e3 r3 en3 q3 o3 => by
    cases e : fSetD ob k d st3 with
    | none => rw [e] at o3; exact o3.elim
    | some st4 =>
      rw [e] at o3
      obtain ⟨a, H', rfl, p, ex, r4⟩ := setD_ok r3 (q2.mono e3 r2) q3 ((q.mono e2 r1).mono e3 r2) e
      exact ⟨a, H', rfl, p, o3 ρ3 H' σ ex r4 (en3.mono ex r3)⟩
end
end Fx

set_option Elab.async false
set_option linter.all false
set_option maxRecDepth 100000
set_option maxHeartbeats 4000000
namespace Fx
open PySem L2

section
variable {X : Cx} {W : WX} {e a b c o i value : Expr} {es : List Expr} {m ma mb mc mo mi mv : SE} {ms : SA} {pos p p2 pos' pos2 apos cpos : Pos} {x : Str}
/-! ### a list's methods -/
abbrev FM := D → List D → Store → Rs D
def mMeth (fm : FM) (mo : SE) (ms : SA) : SE := fun τ st => (mo τ st).bind fun ob st1 => match listOf ob st1 with
  | some _ => (ms τ st1).bind fun ds st2 => fm ob ds st2
  | none => .no
def MethS (X : Cx) (id : String) (fm : FM) : Prop := ∃ r, MtR X id r ∧ ∀ (W : WX) (σ : St) (ρ : Mp) (st : Store) (H : Hp) (ob : D) (ds : List D) (vo : V) (vs : List V) (Q : VK), R X.K ρ st H → RelD X.K ρ st.length H ob vo → RelDs X.K ρ st.length H ds vs →
  Out X.K (reD X.K) W σ ρ st.length H Q (fm ob ds st) → r vo vs H Q
theorem ev_bm {name : Str} {id : String} {fm : FM} (slot : PySem.Slot "list" name id) (hty : typeOf (.builtin id) = pure (.type "method_descriptor")) (hm : MethS X id fm) (ho : EvE X W o mo) (ha : EvA X W (e :: es) ms)
    (hbase : attributeBase o name X.env (eval o X.env) = eval o X.env := by rfl)
    (hfew : ((backTo cpos (starEach (e :: es) X.env)).all (fun x => !x.1) && (backToKw cpos (keywordEach [] X.env)).all (fun x => x.1.isSome)
      && decide ((e :: es).length + ([] : List Keyword).length + (if ([] : List Keyword).isEmpty then 0 else 1) < 30)) = true := by rfl)
    (hline : (apos.endLine == cpos.line) = true := by rfl) (hs : starEach (e :: es) X.env = (false, eval e X.env) :: starEach es X.env := by rfl) (hplain : (backTo cpos (starEach es X.env)).any (·.1) = false := by rfl) :
    EvE X W (.Call (.Attribute o name apos) (e :: es) [] cpos) (mMeth fm mo ms) := by
  obtain ⟨r, h1, h2⟩ := hm
  refine PE.imp (pe_bm PySem.F.plainAttrs_list slot hty h1 ho ha hbase hfew hline hs hplain) fun σ H Q ⟨ρ, τ, st, r0, en, oo⟩ => tM.bind r0 en oo fun ob st1 ρ1 H1 v e1 r1 en1 q o1 => ?_
  cases hl : listOf ob st1 with
  | none => rw [hl] at o1; exact o1.elim
  | some xs =>
    rw [hl] at o1
    obtain ⟨p, us, rfl, hs, _⟩ := listOf_rel r1 q hl
    exact ⟨.inl ⟨rfl, us, hs⟩, tM.bind r1 en1 o1 fun ds st2 ρ2 H2 vs e2 r2 en2 q2 o2 => h2 W σ ρ2 st2 H2 ob ds _ vs Q r2 (q.mono e2 r1) q2 o2⟩
theorem ev_bm0 {name : Str} {id : String} {fm : FM} (slot : PySem.Slot "list" name id) (hty : typeOf (.builtin id) = pure (.type "method_descriptor")) (hm : MethS X id fm) (ho : EvE X W o mo)
    (hbase : attributeBase o name X.env (eval o X.env) = eval o X.env := by rfl) (hline : (apos.endLine == cpos.line) = true := by rfl) : EvE X W (.Call (.Attribute o name apos) [] [] cpos) (mMeth fm mo mNil) := by
  obtain ⟨r, h1, h2⟩ := hm
  refine PE.imp (pe_bm0 PySem.F.plainAttrs_list slot hty h1 ho hbase hline) fun σ H Q ⟨ρ, τ, st, r0, en, oo⟩ => tM.bind r0 en oo fun ob st1 ρ1 H1 v e1 r1 en1 q o1 => ?_
  cases hl : listOf ob st1 with
  | none => rw [hl] at o1; exact o1.elim
  | some xs =>
    rw [hl] at o1
    obtain ⟨p, us, rfl, hs, _⟩ := listOf_rel r1 q hl
    exact ⟨.inl ⟨rfl, us, hs⟩, h2 W σ ρ1 st1 H1 ob [] _ [] Q r1 q .nil o1⟩
/-- a change of a list of the store -/
def onLoc (ob : D) (st : Store) (f : List D → Option (D × List D)) : Rs D := match ob with
  | .loc n => (match st[n]? with
    | some (.lst xs) => (match f xs with
      | some (d, ys) => .ok d (st.set n (.lst ys))
      | none => .no)
    | _ => .no)
  | _ => .no
theorem onLoc_ok {ob : D} {st : Store} {f : List D → Option (D × List D)} (h : onLoc ob st f ≠ .no) : ∃ n xs d ys, ob = .loc n ∧ st[n]? = some (.lst xs) ∧ f xs = some (d, ys) ∧ onLoc ob st f = .ok d (st.set n (.lst ys)) := by
  cases ob with
  | loc n =>
    simp only [onLoc] at h ⊢
    cases e : st[n]? with
    | none => rw [e] at h; exact absurd rfl h
    | some u =>
      rw [e] at h
      cases u with
      | lst xs =>
        simp only at h ⊢
        cases e2 : f xs with
        | none => rw [e2] at h; exact absurd rfl h
        | some p => obtain ⟨d, ys⟩ := p; exact ⟨n, xs, d, ys, rfl, e, e2, by simp only⟩
      | _ => exact absurd rfl h
  | _ => exact absurd rfl h
/-- writing a list of the store, in a reading -/
theorem Out.write {K : PySem.W.Frag} {ρ : Mp} {st : Store} {H : Hp} {σ : St} {Q : VK} {n : Nat} {d : D} {v : V} {ys : List D} {us : List V} (r0 : R K ρ st H) (h : Out K (reD K) W σ ρ st.length H Q (.ok d (st.set n (.lst ys)))) (hn : n < st.length)
    (hy : RelDs K ρ st.length H ys us) (hd : RelD K ρ st.length H d v) : Q v (upd H (ρ.at' n) (.lst us)) := by
  have ex := r0.set_ext (u := .lst us) hn
  refine h ρ _ v ?_ (r0.set hn ⟨us, upd_same, RelDs.mono ex r0 _ hy⟩) ?_
  · rw [List.length_set]; exact ex
  · simp only [reD]; rw [List.length_set]; exact hd.mono ex r0
noncomputable def fApp : FM := fun ob ds st => match ds with
  | [d] => onLoc ob st fun xs => if szFits (xs.length + 1) = true then some (.non, xs ++ [d]) else none
  | _ => .no
theorem ms_append : MethS X "list.append" fApp := by
  refine ⟨_, mt_append, fun W σ ρ st H ob ds vo vs Q r ro rv oo => ?_⟩
  match ds, rv, oo with
  | [d], rv, oo =>
    obtain ⟨v, rfl, rd⟩ := rv.one
    obtain ⟨n, xs, d', ys, rfl, e1, e2, e3⟩ := onLoc_ok (fun z => by simp only [fApp] at oo; rw [z] at oo; exact oo)
    simp only [fApp] at oo
    rw [e3] at oo
    split at e2
    · rename_i hz
      cases e2
      obtain ⟨hl, rfl, us, hv, ru⟩ := loc_rel r ro e1
      exact ⟨_, us, v, rfl, rfl, hv, by rw [ru.len]; exact (szFits_lt.mp hz), oo.write r hl (ru.append (.cons rd .nil)) (by simp [RelD])⟩
    · cases e2
  | [], _, oo => exact oo.elim
  | _ :: _ :: _, _, oo => simp [fApp] at oo; exact oo.elim
/-- the list given is another one, or is not one of the store's -/
noncomputable def fExt : FM := fun ob ds st => match ds with
  | [d] => (match listOf d st with
    | some zs => onLoc ob st fun xs => if szFits (xs.length + zs.length) = true then some (.non, xs ++ zs) else none
    | none => .no)
  | _ => .no
theorem lst_of {X : Cx} {pins : List (Addr × Obj)} : True := trivial
def fPop : FM := fun ob ds st => match ds with
  | [] => onLoc ob st fun xs => (xs[xs.length - 1]?).map fun d => (d, xs.dropLast)
  | _ => .no
theorem ms_pop : MethS X "list.pop" fPop := by
  refine ⟨_, mt_pop, fun W σ ρ st H ob ds vo vs Q r ro rv oo => ?_⟩
  match ds, rv, oo with
  | [], rv, oo =>
    obtain rfl := rv.nil_eq
    obtain ⟨n, xs, d', ys, rfl, e1, e2, e3⟩ := onLoc_ok (fun z => by simp only [fPop] at oo; rw [z] at oo; exact oo)
    simp only [fPop] at oo
    rw [e3] at oo
    cases q : xs[xs.length - 1]? with
    | none => rw [q] at e2; cases e2
    | some d =>
      rw [q] at e2
      cases e2
      obtain ⟨hl, rfl, us, hv, ru⟩ := loc_rel r ro e1
      obtain ⟨v, h1, h2⟩ := ru.get q
      exact ⟨_, us, v, rfl, rfl, hv, by rw [ru.len]; exact h1, oo.write r hl ru.dropLast h2⟩
  | _ :: _, _, oo => simp [fPop] at oo; exact oo.elim
noncomputable def fPopAt : FM := fun ob ds st => match ds with
  | [.int k] => if w63 k = true then onLoc ob st (fun xs => match ixN xs.length k with
    | some j => (xs[j]?).map fun d => (d, xs.eraseIdx j)
    | none => none) else .no
  | _ => .no
theorem ms_popAt : MethS X "list.pop" fPopAt := by
  refine ⟨_, mt_popAt, fun W σ ρ st H ob ds vo vs Q r ro rv oo => ?_⟩
  have hne : fPopAt ob ds st ≠ .no := fun z => by rw [z] at oo; exact oo
  unfold fPopAt at hne oo
  split at hne
  · rename_i k
    simp only at oo
    split at hne
    · rename_i hk0
      rw [if_pos hk0] at oo
      have hk := w63_iff.mp hk0
      obtain ⟨v, rfl, rd⟩ := rv.one
      simp only [RelD] at rd
      subst rd
      obtain ⟨n, xs, d', ys, rfl, e1, e2, e3⟩ := onLoc_ok hne
      rw [e3] at oo
      cases q0 : ixN xs.length k with
      | none => rw [q0] at e2; cases e2
      | some j =>
        rw [q0] at e2
        simp only at e2
        cases q : xs[j]? with
        | none => rw [q] at e2; cases e2
        | some d =>
          rw [q] at e2
          cases e2
          obtain ⟨hl, rfl, us, hv, ru⟩ := loc_rel r ro e1
          obtain ⟨v, h1, h2⟩ := ru.get q
          exact ⟨_, us, k, j, v, rfl, rfl, hv, hk.1, hk.2, by rw [ru.len]; exact (ixN_seq q0).1, h1, oo.write r hl (ru.eraseIdx j) h2⟩
    · exact absurd rfl hne
  · exact absurd rfl hne
/-! ### list(range(..)), tuple(range(..)) -/
abbrev reRg : Rl (Int × Int) (Int × Int) := fun _ _ _ _ a b => a = b
instance {K : PySem.W.Frag} : RlOk K reRg := ⟨fun _ _ h => h⟩
theorem ex_rgFits : ∃ f : Int → Int → Bool, ∀ i j, f i j = true ↔ RgOk i j := ⟨fun i j => @decide (RgOk i j) (by unfold RgOk; infer_instance), fun i j => @decide_eq_true_iff _ (_)⟩
noncomputable def rgFits : Int → Int → Bool := ex_rgFits.choose
theorem rg_rel {K : PySem.W.Frag} {ρ : Mp} {n : Nat} {H : Hp} (i j : Int) : RelDs K ρ n H (rangeD i j) (rgV i j) := by
  unfold rangeD rgV
  induction List.range (j - i).toNat with
  | nil => exact .nil
  | cons k r ih => exact .cons (by simp [RelD]) ih
noncomputable def mRgL1 (m : SE) : SA := fun τ st => (m τ st).bind fun d st1 => match d with
  | .int j => if rgFits 0 j = true then .ok (rangeD 0 j) st1 else .no
  | _ => .no
noncomputable def mRgL2 (ma mb : SE) : SA := fun τ st => (ma τ st).bind fun d st1 => (mb τ st1).bind fun d2 st2 => match d, d2 with
  | .int i, .int j => if rgFits i j = true then .ok (rangeD i j) st2 else .no
  | _, _ => .no
def mTupOf (m : SA) : SE := fun τ st => (m τ st).bind fun ds st1 => .ok (.tup ds) st1
theorem rgFits_ok {i j : Int} (h : rgFits i j = true) : RgOk i j := (ex_rgFits.choose_spec i j).mp h
section
variable (hc : X.calm = true) (hm : X.mg "range" = none)
theorem ef_listRg1 (hm2 : X.mg "list" = none) (ha : EvE X W a ma) (hc : X.calm = true) (hm : X.mg "range" = none) (hg : Gl X "range" := by rfl) (hg2 : Gl X "list" := by rfl) (na : starEach [a] X.env = (false, eval a X.env) :: starEach [] X.env := by rfl)
    (na2 : starEach [Expr.Call (.Name "range" p2) [a] [] pos2] X.env = (false, eval (.Call (.Name "range" p2) [a] [] pos2) X.env) :: starEach [] X.env := by rfl) :
    EvF X W (.Call (.Name "list" p) [.Call (.Name "range" p2) [a] [] pos2] [] pos) (mRgL1 ma) := PE.imp (pe_listRg hc hg2 hm2 (prg_1 hg hm ha na) na2) fun σ H Q ⟨ρ, τ, st, r0, en, oo⟩ =>
  tM.bind r0 en oo fun d st1 ρ1 H1 v e1 r1 en1 q o1 => by
    cases d with
    | int j =>
      simp only [RelD] at q
      simp only at o1
      split at o1
      · rename_i h; exact ⟨j, q, rgFits_ok h, fun y hy => Out.fresh r1 o1 hy (rg_rel _ _)⟩
      · exact o1.elim
    | _ => exact o1.elim
theorem ef_listRg2 (hm2 : X.mg "list" = none) (ha : EvE X W a ma) (hb : EvE X W b mb) (hc : X.calm = true) (hm : X.mg "range" = none) (hg : Gl X "range" := by rfl) (hg2 : Gl X "list" := by rfl) (na : starEach [a, b] X.env = (false, eval a X.env) :: starEach [b] X.env := by rfl)
    (nb : starEach [b] X.env = (false, eval b X.env) :: starEach [] X.env := by rfl) (hp : (backTo pos2 (starEach [b] X.env)).any (·.1) = false := by rfl)
    (na2 : starEach [Expr.Call (.Name "range" p2) [a, b] [] pos2] X.env = (false, eval (.Call (.Name "range" p2) [a, b] [] pos2) X.env) :: starEach [] X.env := by rfl) :
    EvF X W (.Call (.Name "list" p) [.Call (.Name "range" p2) [a, b] [] pos2] [] pos) (mRgL2 ma mb) := PE.imp (pe_listRg hc hg2 hm2 (prg_2 hg hm ha hb na nb hp) na2) fun σ H Q ⟨ρ, τ, st, r0, en, oo⟩ =>
  tM.bind r0 en oo fun d st1 ρ1 H1 v e1 r1 en1 q o1 => tM.bind r1 en1 o1 fun d2 st2 ρ2 H2 v2 e2 r2 en2 q2 o2 => by
    cases d with
    | int i =>
      cases d2 with
      | int j =>
        simp only [RelD] at q q2
        simp only at o2
        split at o2
        · rename_i h; exact ⟨i, j, q, q2, rgFits_ok h, fun y hy => Out.fresh r2 o2 hy (rg_rel _ _)⟩
        · exact o2.elim
      | _ => exact o2.elim
    | _ => exact o2.elim
theorem ev_tupRg1 (hm2 : X.mg "tuple" = none) (ha : EvE X W a ma) (hc : X.calm = true) (hm : X.mg "range" = none) (hg : Gl X "range" := by rfl) (hg2 : Gl X "tuple" := by rfl) (na : starEach [a] X.env = (false, eval a X.env) :: starEach [] X.env := by rfl)
    (na2 : starEach [Expr.Call (.Name "range" p2) [a] [] pos2] X.env = (false, eval (.Call (.Name "range" p2) [a] [] pos2) X.env) :: starEach [] X.env := by rfl) :
    EvE X W (.Call (.Name "tuple" p) [.Call (.Name "range" p2) [a] [] pos2] [] pos) (mTupOf (mRgL1 ma)) := PE.imp (pe_tupRg hc hg2 hm2 (prg_1 hg hm ha na) na2) fun σ H Q ⟨ρ, τ, st, r0, en, oo⟩ => by
  have oo' : Out X.K (reD X.K) W σ ρ st.length H Q ((ma τ st).bind fun d st1 => (match d with
    | .int j => if rgFits 0 j = true then Rs.ok (rangeD 0 j) st1 else .no
    | _ => .no).bind fun ds st2 => .ok (.tup ds) st2) := by
    unfold mTupOf mRgL1 at oo
    rw [Rs.bind_assoc] at oo
    exact oo
  refine tM.bind r0 en oo' fun d st1 ρ1 H1 v e1 r1 en1 q o1 => ?_
  cases d with
  | int j =>
    simp only [RelD] at q
    simp only at o1
    split at o1
    · rename_i h
      refine ⟨j, q, rgFits_ok h, fun y hy => Out.free (d := D.tup (rangeD 0 j)) r1 o1 hy ?_⟩
      simp only [reD, RelD]
      exact ⟨y, _, rfl, upd_same, rg_rel _ _⟩
    · exact o1.elim
  | _ => exact o1.elim
end
/-! ### xs * k of a list -/
theorem Out.bindE {α β γ δ : Type} {K : PySem.W.Frag} {ρ : Mp} {st : Store} {H : Hp} {σ : St} {Ra : Rl α β} {Rg : Rl γ δ} [RlOk K Ra] [RlOk K Rg] {Q : δ → Hp → Prop} {Q1 : β → Hp → Prop} {r : Rs α} {k : α → Store → Rs γ} (r0 : R K ρ st H) (h : Out K Rg W σ ρ st.length H Q (r.bind k))
    (hk : ∀ d st1 ρ1 H1 v, r = .ok d st1 → Ext ρ st.length H ρ1 st1.length H1 → R K ρ1 st1 H1 → Ra H ρ1 st1 H1 d v → Out K Rg W σ ρ1 st1.length H1 Q (k d st1) → Q1 v H1) : Out K Ra W σ ρ st.length H Q1 r := by
  cases r with
  | no => exact h
  | ok d st1 => exact fun ρ1 H1 v e1 r1 q => hk d st1 ρ1 H1 v rfl e1 r1 q (Out.shift h r0 e1 r1)
  | er x st1 => exact h
/-- [a, b] * k -/
noncomputable def mMulD (ms : SA) (mb : SE) : SA := fun τ st => (ms τ st).bind fun xs st1 => (mb τ st1).bind fun y st2 => match y with
  | .int k => if w63 k = true ∧ szFits (xs.length * k.toNat) = true then .ok (List.replicate k.toNat xs).flatten st2 else .no
  | _ => .no
theorem ef_mulD {n : Nat} (h : EvA X W es ms) (hl : LenA ms n) (hb : EvE X W b mb) (hk : n ≤ 100 := by decide) : EvF X W (.BinOp (.List es pos2) .Mult b pos) (mMulD ms mb) := PE.imp (pe_op op_rep (pe_lst h) hb) fun σ H Q ⟨ρ, τ, st, r0, en, oo⟩ => by
  show tLst _ σ H _
  refine ⟨ρ, τ, st, r0, en, Out.bindE (Ra := reL X.K) r0 oo fun xs st1 ρ1 H1 vs eq e1 r1 rv o1 => ⟨by rw [rv.len, hl _ _ _ _ eq]; exact len100 hk, fun p hp => ?_⟩⟩
  -- the display is an object of the heap, not of the store
  have en1 := (en.mono e1 r0).mono (r1.push_ext (u := .lst vs) hp) r1
  have r2 := r1.free (u := .lst vs) hp
  have o2 := Out.shift o1 r1 (r1.push_ext (u := .lst vs) hp) r2
  refine tM.bind r2 en1 o2 fun y st3 ρ3 H3 vy e3 r3 en3 q3 o3 => ?_
  cases y with
  | int k =>
    simp only [RelD] at q3
    simp only at o3
    split at o3
    · rename_i hz
      have hp3 : H3 p = some (.lst vs) := e3.keep p _ upd_same (r1.ne_none hp)
      refine ⟨p, k, vs, rfl, q3, hp3, (w63_iff.mp hz.1).1, (w63_iff.mp hz.1).2, by rw [rv.len]; exact szFits_iff.mp hz.2, fun y hy => Out.fresh r3 o3 hy (RelDs.repl ?_ _)⟩
      exact RelDs.mono e3 r2 _ (RelDs.mono (r1.push_ext hp) r1 _ rv)
    · exact o3.elim
  | _ => exact o3.elim
/-! ### isinstance -/
inductive Ty | non | bool | int | str | tup | list | dict
  deriving DecidableEq
def Ty.nm : Ty → String
  | .non => "NoneType" | .bool => "bool" | .int => "int" | .str => "str" | .tup => "tuple" | .list => "list" | .dict => "dict"
def Ty.sub (a b : Ty) : Bool := decide (a = b) || (decide (a = .bool) && decide (b = .int))
theorem kit_nm (a b : Ty) : kitB a.nm b.nm = some (a.sub b) := by
  cases a <;> cases b <;> decide +kernel
def tyD (d : D) (st : Store) : Option Ty := match d with
  | .non => some .non
  | .bl _ => some .bool
  | .int _ => some .int
  | .str _ => some .str
  | .tup _ => some .tup
  | .lst _ => some .list
  | .loc i => (match st[i]? with
    | some (.lst _) => some .list
    | some (.dk _) => some .dict
    | some (.dt _) => some .dict
    | none => none)
  | _ => none
theorem tyD_rel {K : PySem.W.Frag} {ρ : Mp} {st : Store} {H : Hp} {d : D} {v : V} {t : Ty} (r : R K ρ st H) (rd : RelD K ρ st.length H d v) (h : tyD d st = some t) : TyX K H v (.type t.nm) := by
  cases d with
  | non => simp only [RelD] at rd; subst rd; cases h; exact .base .non
  | bl b => simp only [RelD] at rd; subst rd; cases h; exact .base (.bl b)
  | int b => simp only [RelD] at rd; subst rd; cases h; exact .base (.int b)
  | str b => simp only [RelD] at rd; subst rd; cases h; exact .base (.str b)
  | tup xs => simp only [RelD] at rd; obtain ⟨a, vs, rfl, s, _⟩ := rd; cases h; exact .base (.tup s)
  | lst xs =>
    simp only [RelD] at rd
    obtain ⟨a, vs, rfl, s, _⟩ := rd
    cases h
    rcases s with ⟨s | ⟨o, s⟩, _⟩ | ⟨o, its, m, e, c, _⟩
    · exact .base (.lst s)
    · exact .base (.frz s)
    · exact .kList e c
  | loc i =>
    simp only [RelD] at rd
    obtain ⟨rfl, _⟩ := rd
    simp only [tyD] at h
    cases e : st[i]? with
    | none => rw [e] at h; cases h
    | some u =>
      rw [e] at h
      cases u with
      | lst xs => obtain ⟨vs, hv, _⟩ := r.obj i _ e; cases h; exact .base (.lst hv)
      | dk xs => obtain ⟨vs, hv, _⟩ := r.obj i _ e; cases h; exact .base (.dK hv)
      | dt xs => obtain ⟨vs, hv, _⟩ := r.obj i _ e; cases h; exact .base (.dT hv)
  | _ => cases h
def mIsi (m : SE) (T : Ty) : SE := fun τ st => (m τ st).bind fun d st1 => match tyD d st1 with
  | some t => .ok (.bl (t.sub T)) st1
  | none => .no
theorem ev_isi {c : Str} (T : Ty) (hmI : X.mg "isinstance" = none) (hmT : X.mg c = none) (hvT : bootBuiltins c = some (.type T.nm)) (ha : EvE X W a ma) (hgI : Gl X "isinstance" := by rfl) (hgT : Gl X c := by rfl) (hn : c ≠ "__name__" := by decide) (hd : (c == ("__debug__" : Str)) = false := by decide)
    (h1 : starEach [a, .Name c p2] X.env = (false, eval a X.env) :: starEach [Expr.Name c p2] X.env := by rfl) (h2 : starEach [Expr.Name c p2] X.env = (false, eval (.Name c p2) X.env) :: starEach [] X.env := by rfl) (hpl : (backTo pos (starEach [Expr.Name c p2] X.env)).any (·.1) = false := by rfl) :
    EvE X W (.Call (.Name "isinstance" p) [a, .Name c p2] [] pos) (mIsi ma T) :=
  PE.imp (pe_callB call_isi hgI hmI (by decide +kernel) (pa_cons ha (pa_cons (pe_bltn (v := .ty T.nm) hgT hmT hvT rfl hn hd) pa_nil h2) h1) (by decide) (by decide) h1 hpl) fun σ H Q ⟨ρ, τ, st, r0, en, oo⟩ =>
    tM.bind r0 en oo fun d st1 ρ1 H1 v e1 r1 en1 q o1 => by
      cases e : tyD d st1 with
      | none => rw [e] at o1; exact o1.elim
      | some t =>
        rw [e] at o1
        exact ⟨v, .ty T.nm, .type t.nm, .type T.nm, t.sub T, rfl, .ty _, tyD_rel r1 q e, kit_ty (kit_nm t T), o1.here r1 (by simp [reD, RelD])⟩
/-- isinstance(x, (T, U)) -/
def mIsi2 (m : SE) (T U : Ty) : SE := fun τ st => (m τ st).bind fun d st1 => match tyD d st1 with
  | some t => .ok (.bl (t.sub T || t.sub U)) st1
  | none => .no
theorem kitAny2 {K : PySem.W.Frag} (t T U : Ty) : PySem.W.kitAny K (.type t.nm) [.type T.nm, .type U.nm] = some (t.sub T || t.sub U) :=
  kitAny_cons (kit_ty (kit_nm t T)) (fun h => by rw [h, Bool.false_or]; exact kitAny_cons (r := t.sub U) (kit_ty (kit_nm t U)) (fun h2 => by rw [h2]; exact kitAny_nil) id) fun h => by rw [h]; rfl
theorem ev_isi2 {c d : Str} {k : Nat} {p3 pt : Pos} (T U : Ty) (hmI : X.mg "isinstance" = none) (hmT : X.mg c = none) (hmU : X.mg d = none) (hvT : bootBuiltins c = some (.type T.nm)) (hvU : bootBuiltins d = some (.type U.nm)) (ha : EvE X W a ma) (hgI : Gl X "isinstance" := by rfl) (hgT : Gl X c := by rfl) (hgU : Gl X d := by rfl)
    (hn : c ≠ "__name__" := by decide) (hd : (c == ("__debug__" : Str)) = false := by decide) (hnU : d ≠ "__name__" := by decide) (hdU : (d == ("__debug__" : Str)) = false := by decide)
    (t1 : starEach [Expr.Name c p2, .Name d p3] X.env = (false, eval (.Name c p2) X.env) :: starEach [Expr.Name d p3] X.env := by rfl) (t2 : starEach [Expr.Name d p3] X.env = (false, eval (.Name d p3) X.env) :: starEach [] X.env := by rfl)
    (h1 : starEach [a, .Tuple [.Name c p2, .Name d p3] k pt] X.env = (false, eval a X.env) :: starEach [Expr.Tuple [.Name c p2, .Name d p3] k pt] X.env := by rfl) (h2 : starEach [Expr.Tuple [.Name c p2, .Name d p3] k pt] X.env = (false, eval (.Tuple [.Name c p2, .Name d p3] k pt) X.env) :: starEach [] X.env := by rfl)
    (hpl : (backTo pos (starEach [Expr.Tuple [.Name c p2, .Name d p3] k pt] X.env)).any (·.1) = false := by rfl) :
    EvE X W (.Call (.Name "isinstance" p) [a, .Tuple [.Name c p2, .Name d p3] k pt] [] pos) (mIsi2 ma T U) :=
  PE.imp (pe_callB call_isiT hgI hmI (by decide +kernel) (pa_cons ha (pa_cons (pe_tup (pa_cons (pe_bltn (v := .ty T.nm) hgT hmT hvT rfl hn hd) (pa_cons (pe_bltn (v := .ty U.nm) hgU hmU hvU rfl hnU hdU) pa_nil t2) t1)) pa_nil h2) h1) (by decide) (by decide) h1 hpl) fun σ H Q ⟨ρ, τ, st, r0, en, oo⟩ =>
    tM.bind r0 en oo fun d st1 ρ1 H1 v e1 r1 en1 q o1 => by
      cases e : tyD d st1 with
      | none => rw [e] at o1; exact o1.elim
      | some t =>
        rw [e] at o1
        refine ⟨by show 2 ≤ sizeLine; decide, fun p hp => ?_⟩
        have r2 := r1.free (u := .tup [.ty T.nm, .ty U.nm]) hp
        have ex := r1.push_ext (u := .tup [.ty T.nm, .ty U.nm]) hp
        exact ⟨v, p, [.ty T.nm, .ty U.nm], .type t.nm, [.type T.nm, .type U.nm], t.sub T || t.sub U, rfl, upd_same, .cons (.ty _) (.cons (.ty _) .nil), tyD_rel r2 (q.mono ex r1) e, kitAny2 t T U, (Out.shift o1 r1 ex r2).here r2 (by simp [reD, RelD])⟩
end
end Fx

set_option Elab.async false
set_option linter.all false
set_option maxRecDepth 100000
set_option maxHeartbeats 4000000
namespace PySem
open Sem (wp)
open AutoSeq1 (wpAny_loadPart')
theorem fx_meets_enumerate_newT (l : Addr) (items : Array Value) (n : Nat) (dct : Option Addr) (sl : Array (Option Value)) :
    Meets (Builtin.«enumerate.__new__» ⟨[.type "enumerate", .ref l], []⟩) (fun _ R s => s.heap.get? l = some { cls := .type "tuple", dict := dct, data := .seq items n, slots := sl } ∧
      R (.ok (.ret (.ref (s.heap.push { cls := .type "tuple_iterator", data := .fields #[.ref l, .int 0 0] }).objs.size)))
        { s with heap := (s.heap.push { cls := .type "tuple_iterator", data := .fields #[.ref l, .int 0 0] }).push { cls := .type "enumerate", data := .fields #[.none, .bool false, .ref s.heap.objs.size, rawInt 0, .none, .none] } }) :=
  .of_wp fun prog w A R s h => by
    obtain ⟨hp, g, d, tk, os⟩ := s; obtain ⟨hl, h⟩ := h
    have hsub := sub_enumerate
    have hL : Heap.IsTuple (Shared.heap ⟨hp, g, d, tk, os⟩) l items := ⟨_, hl, rfl, n, rfl⟩
    wp_walk using wpAny_loadPart' hl
    refine wpAny_stack_any fun st => wpAny_pure ?_
    split
    · rename_i c _ _ _ _ _
      cases (c == Value.type "enumerate")
      · wp_walk using wpAny_loadPart' hl, wpAny_pyIter_tuple hL
        exact ⟨_, rfl, h⟩
      · wp_walk using wpAny_loadPart' hl, wpAny_pyIter_tuple hL
        exact ⟨_, rfl, h⟩
    · wp_walk using wpAny_loadPart' hl, wpAny_pyIter_tuple hL
      exact ⟨_, rfl, h⟩
section
variable {prog : Program} {w : World} {A : Around} {E : Value → Shared → Prop} {s : Shared}
theorem fx_call_enumerate_tuple {l : Addr} {items : Array Value} {Q : Value → Shared → Prop} (hL : s.heap.IsTuple l items)
    (h : ∀ h', IsEnum h' (s.heap.objs.size + 1) s.heap.objs.size 0 .none → h'.IsTupleIter s.heap.objs.size l 0 → h'.objs.size = s.heap.objs.size + 2 →
      (∀ b o, s.heap.get? b = some o → h'.get? b = some o) → Q (.ref (s.heap.objs.size + 1)) { s with heap := h' }) :
    wpAny (model prog w) A (call (.type "enumerate") [.ref l]) Q E s := by
  obtain ⟨⟨c, dct, dt, sl⟩, hl, hc, n, hd⟩ := hL
  replace hc : c = .type "tuple" := hc
  replace hd : dt = .seq items n := hd
  subst hc hd
  refine callType_new F.called_enumerate (by decide) (F.typeCall_enumerate_1 _) (F.newCall_enumerate_1 _) (fun obj => F.args_object_init_2 obj _) F.entry_enumerate_new
    (fx_meets_enumerate_newT l items n dct sl) ⟨hl, ?_⟩
  have hz : (s.heap.push { cls := .type "tuple_iterator", data := .fields #[.ref l, .int 0 0] }).objs.size = s.heap.objs.size + 1 := Heap.size_push ..
  show _ ∧ _
  rw [hz]
  have he : IsEnum ((s.heap.push { cls := .type "tuple_iterator", data := .fields #[.ref l, .int 0 0] }).push
      { cls := .type "enumerate", data := .fields #[.none, .bool false, .ref s.heap.objs.size, rawInt 0, .none, .none] }) (s.heap.objs.size + 1) s.heap.objs.size 0 .none := by
    have := Heap.get?_push_size (s.heap.push { cls := .type "tuple_iterator", data := .fields #[.ref l, .int 0 0] })
      (o := { cls := .type "enumerate", data := .fields #[.none, .bool false, .ref s.heap.objs.size, rawInt 0, .none, .none] }) rfl
    rw [hz] at this; exact this
  refine ⟨⟨_, he, rfl⟩, h _ he ⟨_, Heap.get?_push_of_some _ (Heap.get?_push_size _ rfl), rfl, rfl⟩ (by rw [Heap.size_push, hz]) fun b o x => Heap.get?_push_of_some _ (Heap.get?_push_of_some _ x)⟩
end
end PySem
namespace L2
open PySem PySem.Spec PyProof.Rows
/-- the tuple at a, each item in a new pair -/
def FxIteT (K : PySem.W.Frag) (a : Addr) : It :=
  ⟨fun i H => ∃ (xs : List V) (x : V), SqT K H a xs ∧ xs[i]? = some x, fun i H v H' => ∃ T x, v = .ref T ∧ H T = none ∧ H' = upd H T (.tup [.int (i : Nat), x]) ∧ ∀ xs, SqT K H a xs → xs[i]? = some x, fun i H => ∃ xs : List V, SqT K H a xs ∧ xs.length ≤ i⟩
theorem fx_turn_enumT {P : Program} {w : World} {K : PySem.W.Frag} {elts : List Expr} {kk : Nat} {tpos : Pos} (a e it : Addr) :
    Turn P w K (.Tuple elts kk tpos) (FxIteT K a) [e, it] e (fun i h => (∃ old, IsEnum h e it ((i : Nat) : Int) old) ∧ h.IsTupleIter it a i ∧ e ≠ it) where
  mem := by simp
  obj := fun i h st b hb => by
    obtain ⟨⟨old, he⟩, ⟨o, ho, hc, hd⟩, _⟩ := st
    have e' : b = e ∨ b = it := by simpa using hb
    rcases e' with z | z
    · rw [z]; exact ⟨_, he, fun v q => nomatch q⟩
    · rw [z]; exact ⟨o, ho, fun v q => by rw [hd] at q; cases q⟩
  keep := fun i h h' st k => let ⟨⟨old, he⟩, hi, hne⟩ := st; ⟨⟨old, k e (by simp) _ he⟩, hi.at fun o q => k it (by simp) o q, hne⟩
  item := by
    intro X hP hw hK hc i pins s σ H E I hf st hg
    subst hP hw hK
    obtain ⟨⟨old, he⟩, hit, hne⟩ := st
    obtain ⟨xs, x, hq, hx⟩ := hg
    obtain ⟨its, rv, p, hz⟩ := I.tuple hq
    obtain ⟨u, hu, ru⟩ := rv.get hx
    have hel : e < s.heap.objs.size := Heap.lt_size he
    have hil : it < s.heap.objs.size := by obtain ⟨_, q, _⟩ := hit; exact Heap.lt_size q
    have hia : a ≠ it := by
      obtain ⟨o1, h1, c1, _⟩ := p
      obtain ⟨o2, h2, c2, _⟩ := hit
      intro z
      rw [z, h2] at h1
      cases h1
      rw [c2] at c1
      exact absurd (Value.type.inj c1) (by decide)
    have hae : a ≠ e := by
      obtain ⟨o1, h1, c1, _⟩ := p
      intro z
      rw [z, he] at h1
      cases h1
      exact absurd (Value.type.inj c1) (by decide)
    have hlt : i < its.toArray.size := by
      have := (List.getElem?_eq_some_iff.mp hu).1
      simpa using this
    have hcal : X.A.in1.handled = none := I.ok.hd hc
    refine wpAny_pyNext_enum_itemD (Draws.tuple hcal it a hia its.toArray) he ⟨hit, show s.heap.IsTuple a its.toArray from p⟩ hlt hne (by simp [hne, Ne.symm hae]) fun y h' tk hy ho hst hT hsz hk => ?_
    have hy' : y = u := by
      rw [List.getElem?_toArray] at hy
      rw [hu] at hy; cases hy; rfl
    subst hy'
    refine ⟨_, rfl, wpAny_letOwnedTupleGo_enum (s := { s with heap := h', toks := tk + 1 }) ho fun h'' he' sb => ?_⟩
    have hT2 : h''.get? s.heap.objs.size = some { cls := .type "tuple", data := .seq #[.int i tk, y] } := (sb.2 _ (Nat.ne_of_gt hel)).trans hT
    have new : ObjOk X.prog X.w (upd H s.heap.objs.size (.tup [.int (i : Nat), x])) h'' s.heap.objs.size (.tup [.int (i : Nat), x]) :=
      ⟨by show 2 ≤ sizeLine; decide, [.int i tk, y], .cons ⟨_, rfl⟩ (.cons ru .nil), ⟨_, hT2, rfl, _, rfl⟩⟩
    have I1 : Inv X pins σ (upd H s.heap.objs.size (.tup [.int (i : Nat), x])) { s with heap := h'', toks := tk + 1 } :=
      I.turnedNew (ch := [e, it]) (fun b ob hb q => (sb.2 b (fun z => hb (by simp [z]))).trans (hk b ob (fun z => hb (by simp [z])) (fun z => hb (by simp [z])) q)) hf (Nat.le_refl _) new
    refine ⟨.ref s.heap.objs.size, _, I1, rfl, ⟨_, x, rfl, I.hok.fresh (Nat.le_refl _), rfl, fun ys hy => by rw [I.tuple_inj hy hq]; exact hx⟩, ⟨⟨y, ?_⟩, hst.1.at fun o q => (sb.2 it (Ne.symm hne)).trans q, hne⟩, fun b hb => ?_⟩
    · have e1 : ((i + 1 : Nat) : Int) = (i : Int) + 1 := by omega
      rw [e1]; exact he'
    · have hb' : b < s.heap.objs.size := by
        have e' : b = e ∨ b = it := by simpa using hb
        rcases e' with z | z
        · rw [z]; exact hel
        · rw [z]; exact hil
      rw [upd_ne (Nat.ne_of_lt hb')]
      exact (hf b hb).1
  done := by
    intro X hP hw hK hc i pins s σ H E I hf st hg
    subst hP hw hK
    obtain ⟨⟨old, he⟩, hit, hne⟩ := st
    obtain ⟨xs, hq, hx⟩ := hg
    obtain ⟨its, rv, p, hz⟩ := I.tuple hq
    obtain ⟨f0, f1, f2, f3, f4, f5⟩ := hf it (by simp)
    have hl := rv.length
    have hia : a ≠ it := by
      obtain ⟨o1, h1, c1, _⟩ := p
      obtain ⟨o2, h2, c2, _⟩ := hit
      intro z
      rw [z, h2] at h1
      cases h1
      rw [c2] at c1
      exact absurd (Value.type.inj c1) (by decide)
    have hcal : X.A.in1.handled = none := I.ok.hd hc
    have D' : Draws X.prog X.w X.A.in1 it [it, a] i (fun _ _ => True) (fun j h => j = i ∧ h.IsTupleIter it a i ∧ h.IsTuple a its.toArray) :=
      { live := fun _ _ st => let ⟨o, ho, _⟩ := st.2.1; ⟨o, ho⟩
        frame := fun _ _ _ st hk => ⟨st.1, st.2.1.at fun o e => hk it (by simp) o e, st.2.2.at fun o e => hk a (by simp) o e⟩
        item := fun j s Q E hj st _ => absurd st.1 (Nat.ne_of_lt hj)
        done := fun s Q E st hE => wpAny_nextOf_tuple_end hcal st.2.1 st.2.2 (by simp; omega) hE }
    exact wpAny_pyNext_enum_endD D' he ⟨rfl, hit, show s.heap.IsTuple a its.toArray from p⟩ fun h' eb => ⟨rfl, I.turned (t' := s.toks) (fun b o hb q => eb b o hb q) f0 f1 f3 f4 f5⟩
  self := fun A i s Q E st h => let ⟨⟨_, he⟩, _⟩ := st; wpAny_pyIter_enum he h
end L2
namespace Fx
open PySem L2
/-! ### enumerate(x), x a tuple or a list that is only read -/
def enumD (ds : List D) : List D := (List.range ds.length).zipWith (fun i d => D.tup [.int (i : Nat), d]) ds
theorem enumD_get {ds : List D} {i : Nat} : (enumD ds)[i]? = (ds[i]?).map fun d => D.tup [.int (i : Nat), d] := by
  unfold enumD
  rw [List.getElem?_zipWith]
  by_cases h : i < ds.length
  · rw [List.getElem?_range h, List.getElem?_eq_getElem h]; rfl
  · rw [List.getElem?_eq_none (by omega : ds.length ≤ i)]
    cases (List.range ds.length)[i]? <;> rfl
theorem enumD_len (ds : List D) : (enumD ds).length = ds.length := by simp [enumD]
section
variable {K : PySem.W.Frag} {ρ : Mp} {st : Store} {H : Hp} {ds : List D}
theorem itR_enumL {a : Addr} {vs : List V} (h : LstAt K H ρ st.length a vs) (rv : RelDs K ρ st.length H ds vs) (r : R K ρ st H) : ItR K ρ st H (Ite K a) (enumD ds) := fun ρ2 st2 H2 e r2 i => by
  have h2 : SqL K H2 a vs := (e.lstAt h).sq
  refine ⟨fun d hd => ?_, fun hl => ⟨vs, h2, by rw [rv.len, ← enumD_len]; exact hl⟩⟩
  rw [enumD_get] at hd
  cases q0 : ds[i]? with
  | none => rw [q0] at hd; cases hd
  | some d0 =>
    rw [q0] at hd
    cases hd
    obtain ⟨v, hv, rd⟩ := rv.get q0
    refine ⟨⟨vs, v, h2, hv⟩, fun x H3 ⟨T, y, ex, hT, e3, q⟩ => ?_⟩
    subst e3; subst ex
    have q' := q vs h2
    rw [hv] at q'; cases q'
    refine ⟨r2.push_ext hT, r2.free hT, ?_⟩
    simp only [RelD]
    refine ⟨T, _, rfl, upd_same, .cons (by simp [RelD]) (.cons ?_ .nil)⟩
    exact (RelD.monoW e r _ rd).mono (r2.push_ext hT) r2
theorem itR_enumT {a : Addr} {vs : List V} (h : H a = some (.tup vs)) (rv : RelDs K ρ st.length H ds vs) (r : R K ρ st H) : ItR K ρ st H (FxIteT K a) (enumD ds) := fun ρ2 st2 H2 e r2 i => by
  have h2 : SqT K H2 a vs := SqT.of (e.keep a _ h (r.ne h rfl))
  refine ⟨fun d hd => ?_, fun hl => ⟨vs, h2, by rw [rv.len, ← enumD_len]; exact hl⟩⟩
  rw [enumD_get] at hd
  cases q0 : ds[i]? with
  | none => rw [q0] at hd; cases hd
  | some d0 =>
    rw [q0] at hd
    cases hd
    obtain ⟨v, hv, rd⟩ := rv.get q0
    refine ⟨⟨vs, v, h2, hv⟩, fun x H3 ⟨T, y, ex, hT, e3, q⟩ => ?_⟩
    subst e3; subst ex
    have q' := q vs h2
    rw [hv] at q'; cases q'
    refine ⟨r2.push_ext hT, r2.free hT, ?_⟩
    simp only [RelD]
    refine ⟨T, _, rfl, upd_same, .cons (by simp [RelD]) (.cons ?_ .nil)⟩
    exact (RelD.monoW e r _ rd).mono (r2.push_ext hT) r2
end
def mEnum (m : SE) : SA := fun τ st => (itemsOf (m τ st)).bind fun ds st1 => .ok (enumD ds) st1
theorem ei_enum {X : Cx} {W : WX} {e : Expr} {m : SE} {p pos tpos : Pos} {elts : List Expr} {kk : Nat} (hm : X.mg "enumerate" = none) (he : EvE X W e m) (hg : Gl X "enumerate" := by rfl) (hs : starEach (e :: []) X.env = (false, eval e X.env) :: starEach [] X.env := by rfl) (hs2 : starEach [e] X.env = [(false, eval e X.env)] := by rfl) :
    EvI X W (.Tuple elts kk tpos) (.Call (.Name "enumerate" p) [e] [] pos) (mEnum m) := by
  refine ⟨fun pins s σ H Rr I h => ?_⟩
  obtain ⟨ρ, τ, st, r0, en, o⟩ := h
  have ha : PA X [e] (tCons (tM X.K (reD X.K) W m) tNil) := pa_cons he pa_nil hs
  have q0 : tCons (tM X.K (reD X.K) W m) tNil σ H fun vs H1 => ∃ a, vs = [.ref a] ∧ ((∃ us, SqL X.K H1 a us ∧ ∃ ρ1 st1 ds, R X.K ρ1 st1 H1 ∧ LstAt X.K H1 ρ1 st1.length a us ∧ RelDs X.K ρ1 st1.length H1 ds us ∧ Out X.K (reI X.K) W σ ρ1 st1.length H1 Rr (.ok (enumD ds) st1)) ∨
      (∃ us, H1 a = some (.tup us) ∧ ∃ ρ1 st1 ds, R X.K ρ1 st1 H1 ∧ RelDs X.K ρ1 st1.length H1 ds us ∧ Out X.K (reI X.K) W σ ρ1 st1.length H1 Rr (.ok (enumD ds) st1))) := by
    unfold mEnum itemsOf at o
    rw [Rs.bind_assoc] at o
    refine tM.bind r0 en o fun d st1 ρ1 H1 v e1 r1 en1 q o1 => ?_
    show ∃ a, [v] = [V.ref a] ∧ _
    cases d with
    | tup ds =>
      simp only [RelD] at q
      obtain ⟨a, us, rfl, hs, rv⟩ := q
      exact ⟨a, rfl, .inr ⟨us, hs, ρ1, st1, ds, r1, rv, o1⟩⟩
    | lst ds =>
      simp only [RelD] at q
      obtain ⟨a, us, rfl, hs, rv⟩ := q
      exact ⟨a, rfl, .inl ⟨us, hs.sq, ρ1, st1, ds, r1, hs, rv, o1⟩⟩
    | _ => exact o1.elim
  refine PyProof.Rows.Call_ (ld_blt I hg hm PyProof.Rows.boot_enumerate (PyProof.Rows.callWith_type1 (thn (ha.run pos pins s σ H _ I q0) fun us s1 ⟨vs, H1, I1, r1, q1⟩ => ?_) hs2 rfl))
  obtain ⟨a, ex, q⟩ := q1
  subst ex
  cases r1 with
  | cons r rr =>
    cases rr
    cases r
    have fin : ∀ b, b = s1.heap.objs.size + 1 ∨ b = s1.heap.objs.size → s1.heap.objs.size ≤ b := fun b e' => by
      rcases e' with z | z
      · rw [z]; exact Nat.le_add_right _ _
      · rw [z]; exact Nat.le_refl _
    rcases q with ⟨us, hq, ρ1, st1, ds, rr, hl, rv, o1⟩ | ⟨us, hq, ρ1, st1, ds, rr, rv, o1⟩
    · obtain ⟨its, rv', p', hz⟩ := I1.list hq
      refine call_enumerate_list p'.isList fun h' he hit hsz hk => wpAny_pyIter_enum he ?_
      have I2 : Inv X pins σ H1 { s1 with heap := h' } := I1.kept (t' := s1.toks) hk
      refine ⟨s1.heap.objs.size + 1, [s1.heap.objs.size + 1, s1.heap.objs.size], _, _, H1, rfl, I2, turn_enum a (s1.heap.objs.size + 1) s1.heap.objs.size, ⟨⟨.none, he⟩, hit, Nat.succ_ne_self _⟩, fun b hb => ?_, o1 ρ1 H1 _ .refl rr (itR_enumL hl rv rr)⟩
      have hle := fin b (by simpa using hb)
      exact I1.fpOk hle (I1.hok.fresh hle)
    · obtain ⟨its, rv', p', hz⟩ := I1.tuple (SqT.of hq)
      refine fx_call_enumerate_tuple (show s1.heap.IsTuple a its.toArray from p') fun h' he hit hsz hk => wpAny_pyIter_enum he ?_
      have I2 : Inv X pins σ H1 { s1 with heap := h' } := I1.kept (t' := s1.toks) hk
      refine ⟨s1.heap.objs.size + 1, [s1.heap.objs.size + 1, s1.heap.objs.size], _, _, H1, rfl, I2, fx_turn_enumT a (s1.heap.objs.size + 1) s1.heap.objs.size, ⟨⟨.none, he⟩, hit, Nat.succ_ne_self _⟩, fun b hb => ?_, o1 ρ1 H1 _ .refl rr (itR_enumT hq rv rr)⟩
      have hle := fin b (by simpa using hb)
      exact I1.fpOk hle (I1.hok.fresh hle)
end Fx

set_option Elab.async false
set_option linter.all false
set_option maxRecDepth 100000
set_option maxHeartbeats 4000000
/-! Fx: raise, try. -/
namespace Fx
open PySem L2 PyProof.Rows

abbrev Suite := Addr → Value → Option Addr → TS
/-- where a suite with a name ends: the name is gone -/
def Ends.gone (D : Ends) (i : Nat) : Ends := { nx := fun σ H => D.nx (σ.set i none) H, rt := D.rt, bk := fun σ H => D.bk (σ.set i none) H, ct := fun σ H => D.ct (σ.set i none) H }
def wHs (K : PySem.W.Frag) (Wout : WX) (D : Ends) : List (Value × Option Nat × Suite) → WX
  | [] => Wout
  | (c, none, ts) :: r => fun cls d σ H => ∃ b, PySem.W.exmOne K cls c = some b ∧ (b = true → ∀ a, H a = none → ts a cls d D σ H) ∧ (b = false → wHs K Wout D r cls d σ H)
  | (c, some i, ts) :: r => fun cls d σ H => ∃ b, PySem.W.exmOne K cls c = some b ∧ (b = true → ∀ a, H a = none → ts a cls d (Ends.gone D i) (σ.set i (some (.ref a))) H) ∧ (b = false → wHs K Wout D r cls d σ H)
def SuiteOk (X : Cx) (ss : List Stmt) (ts : Suite) : Prop := ∀ (a : Addr) (oe : Obj) (cls : Value) (d : Option Addr) (pn : List (Addr × Obj)), Zc cls d oe → (∃ vs, oe.data = .fields vs) → PSs (X.suite a ((a, oe) :: pn)) ss (ts a cls d)
inductive Hs (X : Cx) : List ExceptHandler → List (Value × Option Nat × Suite) → Prop
  | nil : Hs X [] []
  | plain {x : Str} {c : Value} {ts : Suite} {b₀ : Stmt} {ss : List Stmt} {np p : Pos} {hds l} (hc : Names X x c) (hs : SuiteOk X (b₀ :: ss) ts) (r : Hs X hds l) : Hs X (.ExceptHandler (some (.Name x np)) none (b₀ :: ss) p :: hds) ((c, none, ts) :: l)
  | named {x n : Str} {i : Nat} {c : Value} {ts : Suite} {b₀ : Stmt} {ss : List Stmt} {np p : Pos} {hds l} (hc : Names X x c) (hN : X.N.Nodup) (hi : X.N[i]? = some n) (hn : X.env.kindOf n = some .local) (hs : SuiteOk X (b₀ :: ss) ts) (r : Hs X hds l) :
      Hs X (.ExceptHandler (some (.Name x np)) (some n) (b₀ :: ss) p :: hds) ((c, some i, ts) :: l)

section
variable {X : Cx} {body : List Stmt} {h₀ : ExceptHandler} {hds : List ExceptHandler} {l : List (Value × Option Nat × Suite)} {pos : Pos} {tb : WX → TS} {Wout : WX}
/-- what a suite leaves, told outside of it -/
theorem SP.out {pins pn : List (Addr × Obj)} {D : Ends} {f : Flow} {s' : Shared} {a : Addr} {q : Addr × Obj} (ok : X.Ok) (h : SP (X.suite a (q :: (X.pn ++ pins))) pn D f s') : SP X pins D f s' := by
  cases f <;> obtain ⟨x, y, z⟩ := h
  · exact ⟨x, y, z.1.unsuite ok, z.2⟩
  · exact ⟨x, y, z.1.unsuite ok, z.2⟩
  · exact ⟨x, y, z.1.unsuite ok, z.2⟩
  · obtain ⟨H6, S6, r6, q6⟩ := z; exact ⟨x, y, H6, S6.unsuite ok, r6, q6⟩
theorem SP.ofTry {pins pn : List (Addr × Obj)} {D : Ends} {f : Flow} {s' : Shared} {xe : Value → Shared → Prop} (ok : X.Ok) (h : SP (X.tr (X.pn ++ pins) xe) pn D f s') : SP X pins D f s' := by
  cases f <;> obtain ⟨x, y, z⟩ := h
  · exact ⟨x, y, z.1.ofTry ok, z.2⟩
  · exact ⟨x, y, z.1.ofTry ok, z.2⟩
  · exact ⟨x, y, z.1.ofTry ok, z.2⟩
  · obtain ⟨H6, S6, r6, q6⟩ := z; exact ⟨x, y, H6, S6.ofTry ok, r6, q6⟩
theorem ps_try_hs (hs : X.stack = X.env :: X.outer) (hf : X.env.frame = some X.env.locals) (tk : Takes X Wout)
    (hb : ∀ (W : WX) (pn : List (Addr × Obj)) (xe : Value → Shared → Prop), Takes (X.tr pn xe) W → PassesOwn (model X.prog X.w) X.A X.env xe → PSs (X.tr pn xe) body (tb W))
    (hh : Hs X (h₀ :: hds) l) : PS X (.Try body (h₀ :: hds) [] [] pos) (fun D σ H => tb (wHs X.K Wout D l) D σ H) := by
  constructor
  intro pins s σ H D I h
  have ok := I.ok
  have hfr : X.A.frames = some (X.env :: X.outer) := by rw [ok.frames, hs]
  apply wpAny_Try_except
  have caught : ∀ (u : Value) (s' : Shared), XE (X.tr (X.pn ++ pins) fun e s₁ => wpAny (model X.prog X.w) X.A (noteFrame e X.env) (fun _ s₂ => wpAny (model X.prog X.w) X.A (setFlight e none) (fun _ s₃ =>
      wpAny (model X.prog X.w) X.A (handleBy e X.env (h₀ :: hds)) (SP X pins D) X.xe s₃) X.xe s₂) X.xe s₁) (wHs X.K Wout D l) u s' →
      wpAny (model X.prog X.w) X.A (noteFrame u X.env) (fun _ s₂ => wpAny (model X.prog X.w) X.A (setFlight u none) (fun _ s₃ => wpAny (model X.prog X.w) X.A (handleBy u X.env (h₀ :: hds)) (SP X pins D) X.xe s₃) X.xe s₂) X.xe s' := by
    rintro u s' ⟨a, B, sI, pins', σ', H', cls, d, rfl, J', nb, up, sky, na, os, ag, w⟩
    have J : Inv X pins σ' H' sI := J'.ofTry ok
    rw [show (X.tr (X.pn ++ pins) fun e s₁ => wpAny (model X.prog X.w) X.A (noteFrame e X.env) (fun _ s₂ => wpAny (model X.prog X.w) X.A (setFlight e none) (fun _ s₃ =>
      wpAny (model X.prog X.w) X.A (handleBy e X.env (h₀ :: hds)) (SP X pins D) X.xe s₃) X.xe s₂) X.xe s₁).stack = X.env :: X.outer from hs] at sky
    refine Sky.land Zc.steady hfr hf sky fun h3 fl3 up3 => ?_
    have J3 : Inv X pins σ' H' { s' with heap := h3 } := J.landed nb fl3.1 (up.trans up3) os ag
    obtain ⟨oe3, vs3, he3, hz3, hd3⟩ := fl3.there
    have away : a ∉ frs (X.env :: X.outer) := fun hm => by
      obtain ⟨_, o', e', hnf⟩ := fl3.2.2.1.mem hm
      rw [he3] at e'; cases e'
      exact hnf _ hd3
    have nL : a ≠ X.env.locals := by
      rintro rfl
      exact away (List.mem_filterMap.mpr ⟨X.env, List.mem_cons_self, hf⟩)
    have nF : a ∉ X.fs := fun hm => away (by
      obtain ⟨e, he, q⟩ := List.mem_filterMap.mp hm
      exact List.mem_filterMap.mpr ⟨e, List.mem_cons_of_mem _ he, q⟩)
    have S3 := J3.suite he3 hd3 na nL nF
    have LT : PySem.W.Looks (model X.prog X.w) h3 (typeOf (.ref a)) cls := fun A Q E s k q => wpAny_typeOf_ref (k _ _ he3) (by rw [hz3.1]; exact q)
    have test : ∀ {x : Str} {c : Value} {np : Pos}, Names X x c → ∀ {Q : Value → Shared → Prop} {E : Value → Shared → Prop}, Q c { s' with heap := h3 } → wpAny (model X.prog X.w) (X.A.mark (some (.ref a))) (eval (.Name x np) X.env) Q E { s' with heap := h3 } := by
      intro x c np hc Q E q
      rcases hc with ⟨hg, hdbg, hm | ⟨hm, hv, hnn⟩⟩
      · exact ld_glob (X := X.suite a ((a, oe3) :: (X.pn ++ pins))) S3 hg hm q hdbg
      · exact ld_blt (X := X.suite a ((a, oe3) :: (X.pn ++ pins))) S3 hg hm hv q hnn hdbg
    have go : ∀ {hds' l'}, Hs X hds' l' → wHs X.K Wout D l' cls d σ' H' → wpAny (model X.prog X.w) X.A (handleBy (.ref a) X.env hds') (SP X pins D) X.xe { s' with heap := h3 } := by
      intro hds' l' hk
      induction hk with
      | nil =>
        intro w
        apply wpAny_handleBy_nil
        have fin : wpAny (model X.prog X.w) X.A (setFlight (.ref a) X.env.frame) (fun _ s4 => wpAny (model X.prog X.w) X.A (throw (.ref a) : Sem Flow) (SP X pins D) X.xe s4) X.xe { s' with heap := h3 } := by
          rw [hf]
          exact HandSPX.setFlight_upZ fl3 fun h4 hh4 up4 => wpAny_throw (tk _ _ ⟨a, B, sI, pins, σ', H', cls, d, rfl, J, nb, (up.trans up3).trans up4, .inr (.inr (by rw [hs]; exact hh4)), na, os, ag, w⟩)
        obtain ⟨_, _, _, oe, vs, T, _, _, he, _, hd, h1, _⟩ := id fl3
        unfold PySem.passOn
        refine wpAny_bind (wpAny_field he hd h1 ?_)
        rw [if_neg (by simp : ¬ ((Value.ref T == Value.none) = true))]
        first
          | exact wpAny_bind (wpAny_pure (wpAny_bind fin))
          | exact wpAny_bind fin
      | @plain x c ts b₀ ss np p hds2 l2 hc hsu r ih =>
        rintro ⟨b, hb1, hyes, hno⟩
        refine wpAny_handleBy_cons (codeAny_handlers_test (test hc ((PySem.W.exm_one (M := model X.prog X.w) J3.kIn LT hb1).here ?_))) (by intro q; cases q)
        cases b with
        | false => exact ih (hno rfl)
        | true =>
          apply codeAny_handlers_suite
          refine HandSPX.lands_againZ fl3 fun h4 fl4 up4 => ?_
          obtain ⟨oe4, vs4, he4, hz4, hd4⟩ := fl4.there
          have J4 : Inv X pins σ' H' { s' with heap := h4 } := J.landed nb fl4.1 ((up.trans up3).trans up4) os ag
          have S4 := J4.suite he4 hd4 na nL nF
          exact wpAny_mono ((hsu a oe4 cls d (X.pn ++ pins) hz4 ⟨_, hd4⟩).run [] _ _ H' _ S4 (hyes rfl a na)) (fun f s6 hsp => SP.out ok hsp) (fun _ _ z => False.elim z)
      | @named x n i c ts b₀ ss np p hds2 l2 hc hN hi hln hsu r ih =>
        rintro ⟨b, hb1, hyes, hno⟩
        refine wpAny_handleBy_cons (codeAny_handlers_test (test hc ((PySem.W.exm_one (M := model X.prog X.w) J3.kIn LT hb1).here ?_))) (by intro q; cases q)
        cases b with
        | false => exact ih (hno rfl)
        | true =>
          apply codeAny_handlers_suite_as
          refine HandSPX.lands_againZ fl3 fun h4 fl4 up4 => ?_
          obtain ⟨oe4, vs4, he4, hz4, hd4⟩ := fl4.there
          have J4 : Inv X pins σ' H' { s' with heap := h4 } := J.landed nb fl4.1 ((up.trans up3).trans up4) os ag
          have S4 := J4.suite he4 hd4 na nL nF
          refine store_ok (X := X.suite a ((a, oe4) :: (X.pn ++ pins))) (v := .ref a) S4 hN hi (.inl hln) rfl (fun s5 S5 => ?_) (.inr hln)
          refine wpAny_mono ((hsu a oe4 cls d (X.pn ++ pins) hz4 ⟨_, hd4⟩).run [] s5 _ H' _ S5 (hyes rfl a na)) (fun f s6 hsp => ?_) (fun _ _ z => False.elim z)
          have away : ∀ {σ6 : L2.St} {H6 : Hp} {Q : Shared → Prop}, Inv X pins σ6 H6 s6 → (∀ s7, Inv X pins (σ6.set i none) H6 s7 → Q s7) →
              wpAny (model X.prog X.w) X.A (do bindName X.env n .none; unbindBehindTheSuite X.env n p) (fun _ s7 => Q s7) X.xe s6 := fun S6 hq => gone_ok S6 hN hi hln hq
          have hsp' := SP.out ok hsp
          cases f <;> obtain ⟨x6, y6, z6⟩ := hsp'
          · exact away z6.1 fun s7 J7 => ⟨_, _, J7, z6.2⟩
          · exact away z6.1 fun s7 J7 => ⟨_, _, J7, z6.2⟩
          · exact away z6.1 fun s7 J7 => ⟨_, _, J7, z6.2⟩
          · obtain ⟨H6, S6, r6, q6⟩ := z6
            exact away S6 fun s7 J7 => ⟨_, _, _, J7, r6, q6⟩
    exact go hh w
  refine wpAny_mono ((hb (wHs X.K Wout D l) (X.pn ++ pins) _ caught PassesOwn.looking).run [] s σ H D (I.toTry _) h) (fun f s1 hsp => ?_) (fun e s1 he => he)
  have q := SP.ofTry ok hsp
  cases f with
  | next => exact wpAny_execs_nil q
  | brk => exact q
  | cont => exact q
  | ret u => exact q
end

/-! ### the same, on plain data -/
/-- a handler: its class, what it does -/
abbrev Hd := Addr × (Ex → SS)
/-- the handlers, in order; the classes that are known to be apart -/
def sHandle (x : Ex) : List Hd → SS
  | [], τ, st => .er x τ st
  | (c, f) :: r, τ, st => if x.cls = c then f x τ st else sHandle x r τ st
def sTry (leafs : List Addr) (b : SS) (hs : List Hd) : SS := fun τ st => match b τ st with
  | .er x τ' st' => if x.cls ∈ leafs then sHandle x hs τ' st' else .no
  | r => r
/-- the classes are apart: an exception of the one is none of the other -/
def Apart (K : PySem.W.Frag) (leafs : List Addr) : Prop := ∀ a ∈ leafs, ∀ c ∈ leafs, PySem.W.exmOne K (.ref a) (.ref c) = some (decide (a = c))
/-- a suite's reading serves what the handler does -/
def Serves (K : PySem.W.Frag) (Wout : WX) (slot : Option Nat) (ts : Suite) (f : Ex → SS) : Prop :=
  ∀ (D : Ends) (ρ : Mp) (τ : En) (st : Store) (σ : L2.St) (H : Hp) (x : Ex) (cls : Value) (d : Option Addr) (a : Addr), R K ρ st H → EnvR K ρ st.length H τ σ → ExR K ρ st.length H x cls d → H a = none → OutS K Wout ρ st.length H D (f x τ st) →
    match slot with
    | none => ts a cls d D σ H
    | some i => ts a cls d (Ends.gone D i) (σ.set i (some (.ref a))) H
inductive HsD (X : Cx) (Wout : WX) (leafs : List Addr) : List ExceptHandler → List Hd → List (Value × Option Nat × Suite) → Prop
  | nil : HsD X Wout leafs [] [] []
  | plain {x : Str} {c : Addr} {f : Ex → SS} {ts : Suite} {b₀ : Stmt} {ss : List Stmt} {np p : Pos} {hds hl l} (hm : c ∈ leafs) (hc : Names X x (.ref c)) (hs : SuiteOk X (b₀ :: ss) ts) (sv : Serves X.K Wout none ts f) (r : HsD X Wout leafs hds hl l) :
      HsD X Wout leafs (.ExceptHandler (some (.Name x np)) none (b₀ :: ss) p :: hds) ((c, f) :: hl) ((.ref c, none, ts) :: l)
  | named {x n : Str} {i : Nat} {c : Addr} {f : Ex → SS} {ts : Suite} {b₀ : Stmt} {ss : List Stmt} {np p : Pos} {hds hl l} (hm : c ∈ leafs) (hc : Names X x (.ref c)) (hN : X.N.Nodup) (hi : X.N[i]? = some n) (hn : X.env.kindOf n = some .local) (hs : SuiteOk X (b₀ :: ss) ts) (sv : Serves X.K Wout (some i) ts f) (r : HsD X Wout leafs hds hl l) :
      HsD X Wout leafs (.ExceptHandler (some (.Name x np)) (some n) (b₀ :: ss) p :: hds) ((c, f) :: hl) ((.ref c, some i, ts) :: l)
theorem HsD.go {X : Cx} {Wout : WX} {leafs : List Addr} {hds hl l} (h : HsD X Wout leafs hds hl l) (ap : Apart X.K leafs) {x : Ex} (hx : x.cls ∈ leafs) {D : Ends} {ρ' : Mp} {τ' : En} {st' : Store} {σ' : L2.St} {H' : Hp} {cls : Value} {dd : Option Addr}
    (r' : R X.K ρ' st' H') (en' : EnvR X.K ρ' st'.length H' τ' σ') (rx : ExR X.K ρ' st'.length H' x cls dd) (o' : OutS X.K Wout ρ' st'.length H' D (sHandle x hl τ' st')) : wHs X.K Wout D l cls dd σ' H' := by
  induction h with
  | nil => exact o' ρ' H' σ' cls dd .refl r' en' rx
  | @plain _ c f ts _ _ _ _ _ _ _ hm hc hs sv r ih =>
    have hcls := rx.1
    refine ⟨decide (x.cls = c), by rw [hcls]; exact ap _ hx _ hm, fun hd a ha => ?_, fun hd => ?_⟩
    · have e := of_decide_eq_true hd
      unfold sHandle at o'
      rw [if_pos e] at o'
      exact sv D ρ' τ' st' σ' H' x cls dd a r' en' rx ha o'
    · have e := of_decide_eq_false hd
      unfold sHandle at o'
      rw [if_neg e] at o'
      exact ih o'
  | @named _ _ i c f ts _ _ _ _ _ _ _ hm hc hN hi hn hs sv r ih =>
    have hcls := rx.1
    refine ⟨decide (x.cls = c), by rw [hcls]; exact ap _ hx _ hm, fun hd a ha => ?_, fun hd => ?_⟩
    · have e := of_decide_eq_true hd
      unfold sHandle at o'
      rw [if_pos e] at o'
      exact sv D ρ' τ' st' σ' H' x cls dd a r' en' rx ha o'
    · have e := of_decide_eq_false hd
      unfold sHandle at o'
      rw [if_neg e] at o'
      exact ih o'
theorem HsD.hs {X : Cx} {Wout : WX} {leafs : List Addr} {hds hl l} (h : HsD X Wout leafs hds hl l) : Hs X hds l := by
  induction h with
  | nil => exact .nil
  | plain hm hc hs sv r ih => exact .plain hc hs ih
  | named hm hc hN hi hn hs sv r ih => exact .named hc hN hi hn hs ih
theorem es_try {X : Cx} {Wout : WX} {leafs : List Addr} {body : List Stmt} {h₀ : ExceptHandler} {hds : List ExceptHandler} {hl : List Hd} {l} {b : SS} {pos : Pos} (hs : X.stack = X.env :: X.outer) (hf : X.env.frame = some X.env.locals) (tk : Takes X Wout) (ap : Apart X.K leafs)
    (hb : ∀ (W : WX) (pn : List (Addr × Obj)) (xe : Value → Shared → Prop), Takes (X.tr pn xe) W → PassesOwn (model X.prog X.w) X.A X.env xe → EvSs (X.tr pn xe) W body b)
    (hh : HsD X Wout leafs (h₀ :: hds) hl l) : EvS X Wout (.Try body (h₀ :: hds) [] [] pos) (sTry leafs b hl) := by
  refine PS.imp (ps_try_hs hs hf tk (tb := fun W => tSt X.K W b) hb hh.hs) fun D σ H ⟨ρ, τ, st, r0, en, o⟩ => ⟨ρ, τ, st, r0, en, ?_⟩
  unfold sTry at o
  cases q : b τ st with
  | no => rw [q] at o; exact o
  | nx a s => rw [q] at o; exact o
  | rt a s => rw [q] at o; exact o
  | bk a s => rw [q] at o; exact o
  | ct a s => rw [q] at o; exact o
  | er x τ' st' =>
    rw [q] at o
    simp only at o
    split at o
    · rename_i hx
      intro ρ' H' σ' cls dd ex r' en' rx
      exact hh.go ap hx r' en' rx (OutS.shift o r0 ex r')
    · exact o.elim
/-- a suite without a name -/
theorem serves_plain {K : PySem.W.Frag} {Wout : WX} {m : SS} (hno : ∀ τ st x τ' st', m τ st ≠ .er x τ' st') : Serves K Wout none (fun _ _ _ => tSt K W0 m) (fun _ => m) := fun D ρ τ st σ H x cls d a r en rx ha o => ⟨ρ, τ, st, r, en, by
  replace o : OutS K Wout ρ st.length H D (m τ st) := o
  cases q : m τ st with
  | no => rw [q] at o; exact o
  | nx a b => rw [q] at o; exact o
  | rt a b => rw [q] at o; exact o
  | bk a b => rw [q] at o; exact o
  | ct a b => rw [q] at o; exact o
  | er x a b => exact absurd q (hno _ _ _ _ _)⟩
/-- a suite that is not reached -/
def sNever : Ex → SS := fun _ _ _ => .no
theorem serves_never {K : PySem.W.Frag} {Wout : WX} {i : Option Nat} : Serves K Wout i (fun _ _ _ => tNever) sNever := fun D ρ τ st σ H x cls d a r en rx ha o => o.elim
theorem suite_never {X : Cx} {ss : List Stmt} : SuiteOk X ss (fun _ _ _ => tNever) := fun _ _ _ _ _ _ _ => pss_never
/-! ### raise X("..."), X without an __init__ of its own -/
def sRaise (c : Addr) : SS := fun τ st => .er ⟨c, none⟩ τ st
theorem es_raise {X : Cx} {W : WX} {c : Addr} {x m : Str} {j : Nat} {p p2 pos pos2 : Pos} (hc : X.calm = true) (tk : Takes X W) (q : PySem.W.excIn X.K c [.type "ValueError", .type "Exception", .type "BaseException", .type "object"] "ValueError.__new__" = true) (gC : X.mg x = some (.ref c)) (kC : PySem.W.keepIn X.K (.ref c) = true)
    (bC : PySem.W.subIn X.K (.ref c) (.type "BaseException") = some true) (tC : PySem.W.typeIn X.K (.ref c) = some (.type "type")) (hg : Gl X x := by rfl) (hdb : (x == ("__debug__" : Str)) = false := by decide) :
    EvS X W (.Raise (some (.Call (.Name x p) [.Constant (.str m) j p2] [] pos)) none pos2) (sRaise c) :=
  PS.imp (ps_raise hc tk (pmk_own PySem.F.excBase_ValueError q gC kC (raises_own bC tC) hg hdb)) fun D σ H ⟨ρ, τ, st, r0, en, o⟩ => o ρ H σ (.ref c) none .refl r0 en ⟨rfl, trivial⟩
end Fx

set_option Elab.async false
set_option linter.all false
set_option maxRecDepth 100000
set_option maxHeartbeats 4000000
namespace Fx
open PySem L2 PyProof.Rows PySem.Spec
/-! ### tuple * int -/
def rRepF (K : PySem.W.Frag) : R2 := fun x y H Q => ∃ l k xs, x = .ref l ∧ y = .int k ∧ SqT K H l xs ∧ xs ≠ [] ∧ 2 ≤ k ∧ k ≤ 1000000 ∧ k.toNat * xs.length ≤ 1000000 ∧ ∀ p, H p = none → Q (.ref p) (upd H p (.tup (List.replicate k.toNat xs).flatten))
section
variable {X : Cx} {W : WX}
theorem op_repF : OpR X (binaryOp .Mult) (rRepF X.K) := by
  intro pins s σ H x y v u Q I rx ry h
  obtain ⟨l, k, xs, rfl, rfl, hT, hne, h1, h2, hz, q⟩ := h
  cases rx
  obtain ⟨t, rfl⟩ := ry
  obtain ⟨its, r, ⟨⟨cls, dd, data, sl⟩, ho, hc, n, hd⟩, hs⟩ := I.tuple hT
  simp only at hc hd
  subst hc hd
  have hle : its.length = xs.length := r.length.symm
  have hn : its ≠ [] := fun e => hne (by
    rw [e] at hle
    exact List.eq_nil_of_length_eq_zero hle.symm)
  have hi : its.toArray.isEmpty = false := by
    cases its with
    | nil => exact absurd rfl hn
    | cons a b => rfl
  have hsz0 : its.toArray.size = xs.length := by rw [List.size_toArray, hle]
  have hm : ((its.toArray.size : Nat) : Int) * k ≤ 1000000 := by
    rw [hsz0]
    have ek : k = ((k.toNat : Nat) : Int) := by omega
    rw [ek, ← Int.natCast_mul, Nat.mul_comm]
    exact Int.ofNat_le.mpr hz
  have flen : (List.replicate k.toNat its).flatten.length ≤ sizeLine := by
    rw [PyProof.Rows.lm_len_rep_flat, hle, sizeLine_eq]
    omega
  have c0 : (decide (k < -(2 ^ 63)) || decide (k ≥ 2 ^ 63)) = false := by
    rw [decide_eq_false (by omega), decide_eq_false (by omega)] <;> rfl
  have c1 : (its.toArray.isEmpty || k == 1) = false := by
    rw [hi, Bool.false_or]
    exact beq_eq_false_iff_ne.mpr (by omega)
  have c2 : (decide (k ≤ 0) || its.toArray.isEmpty) = false := by
    rw [hi, Bool.or_false]
    exact decide_eq_false (by omega)
  have c4 : Builtin.Tuple.tupleTooMany (((its.toArray.size : Nat) : Int) * k) = false := by
    unfold Builtin.Tuple.tupleTooMany
    rw [sizeLine_eq]
    exact decide_eq_false (by omega)
  refine wpAny_binaryOp_repeat_ref (T := "tuple") (U := "int") (by decide) ⟨_, ho, rfl⟩ (fun s' => typeIs_int s' k t) noFill_tuple_mul F.fills_int_mul F.slot_int_rmul repeat_tuple F.slot_int_index.lookup
    (call_meets F.slot_int_rmul (typeIs_int s k t) F.entry_int_rmul (F.args_int_rmul_2 _ _) (int_rmul_tuple k t l its.toArray n dd sl)
      ⟨ho, rfl, ⟨_, ho, rfl⟩, call_meets F.slot_tuple_mul ⟨_, ho, rfl⟩ F.entry_tuple_mul (F.args_tuple_mul_2 _ _) (tuple_mulW l its.toArray n dd sl k t c0 c1 c2 (by omega) c4 (by rw [size_rep, List.size_toArray]; exact flen)) ⟨ho, ?_⟩⟩)
  rw [size_rep]
  refine ⟨.ref s.heap.objs.size, _, I.laid (t' := s.toks) (o := .tup (List.replicate k.toNat xs).flatten) (fun b ob q => Heap.get?_push_of_some _ q) (Nat.le_refl _) ?_, rfl, q _ (I.hok.fresh (Nat.le_refl _))⟩
  exact ⟨by rw [PyProof.Rows.lm_len_rep_flat, sizeLine_eq]; omega, _, r.rep k.toNat, IsTup.new _ _⟩
theorem RelDs.reps {K : PySem.W.Frag} {ρ : Mp} {n : Nat} {H : Hp} {a : List D} {us : List V} (h : RelDs K ρ n H a us) : ∀ m : Nat, RelDs K ρ n H (List.replicate m a).flatten (List.replicate m us).flatten
  | 0 => .nil
  | m + 1 => by rw [List.replicate_succ, List.replicate_succ, List.flatten_cons, List.flatten_cons]; exact h.append (RelDs.reps h m)
theorem ex_repFits : ∃ f : Nat → Int → Bool, ∀ n k, f n k = true ↔ (n ≠ 0 ∧ 2 ≤ k ∧ k ≤ 1000000 ∧ k.toNat * n ≤ 1000000) := ⟨fun n k => decide (n ≠ 0 ∧ 2 ≤ k ∧ k ≤ 1000000 ∧ k.toNat * n ≤ 1000000), fun i j => decide_eq_true_iff⟩
noncomputable def repFits : Nat → Int → Bool := ex_repFits.choose
theorem repFits_iff {n : Nat} {k : Int} : repFits n k = true ↔ (n ≠ 0 ∧ 2 ≤ k ∧ k ≤ 1000000 ∧ k.toNat * n ≤ 1000000) := ex_repFits.choose_spec n k
noncomputable def fMul : D → D → Store → Rs D := fun x y st => match x, y with
  | .int i, .int j => if mulFits i j = true then .ok (.int (i * j)) st else .no
  | .tup a, .int k => if repFits a.length k = true then .ok (.tup (List.replicate k.toNat a).flatten) st else .no
  | _, _ => .no
theorem opS_mul : OpS X (binaryOp .Mult) fMul := by
  refine ⟨_, op_mulX.or op_repF, fun W σ ρ st H x y vx vy Q r rx ry o => ?_⟩
  cases x with
  | int i =>
    cases y with
    | int j =>
      simp only [fMul] at o
      split at o
      · rename_i h
        simp only [RelD] at rx ry
        exact .inl ⟨i, j, rx, ry, h, o.here r (by simp [reD, RelD])⟩
      · exact o.elim
    | _ => exact o.elim
  | tup a =>
    cases y with
    | int k =>
      simp only [fMul] at o
      split at o
      · rename_i h
        simp only [RelD] at rx ry
        obtain ⟨p, us, rfl, hs, rs⟩ := rx
        have h' := repFits_iff.mp h
        obtain ⟨h0, h1, h2, h3⟩ := h'
        have hl := rs.len
        refine .inr ⟨p, k, us, rfl, ry, SqT.of hs, fun e => h0 (by rw [← hl, e]; rfl), h1, h2, by rw [hl]; exact h3, fun q hq => ?_⟩
        refine o.free r hq ?_
        simp only [reD, RelD]
        refine ⟨q, _, rfl, upd_same, ?_⟩
        have rs' : RelDs X.K ρ st.length (upd H q (.tup (List.replicate k.toNat us).flatten)) a us := RelDs.mono (r.push_ext hq) r a rs
        exact RelDs.reps rs' _
      · exact o.elim
    | _ => exact o.elim
  | _ => exact o.elim
end
section
variable {X : Cx} {W : WX} {a b : Expr} {ma mb : SE} {p p2 pos pos2 : Pos}
theorem ev_tupRg2 (hm2 : X.mg "tuple" = none) (ha : EvE X W a ma) (hb : EvE X W b mb) (hc : X.calm = true) (hm : X.mg "range" = none) (hg : Gl X "range" := by rfl) (hg2 : Gl X "tuple" := by rfl) (na : starEach [a, b] X.env = (false, eval a X.env) :: starEach [b] X.env := by rfl)
    (nb : starEach [b] X.env = (false, eval b X.env) :: starEach [] X.env := by rfl) (hp : (backTo pos2 (starEach [b] X.env)).any (·.1) = false := by rfl)
    (na2 : starEach [Expr.Call (.Name "range" p2) [a, b] [] pos2] X.env = (false, eval (.Call (.Name "range" p2) [a, b] [] pos2) X.env) :: starEach [] X.env := by rfl) :
    EvE X W (.Call (.Name "tuple" p) [.Call (.Name "range" p2) [a, b] [] pos2] [] pos) (mTupOf (mRgL2 ma mb)) := PE.imp (pe_tupRg hc hg2 hm2 (prg_2 hg hm ha hb na nb hp) na2) fun σ H Q ⟨ρ, τ, st, r0, en, oo⟩ => by
  have oo' : Out X.K (reD X.K) W σ ρ st.length H Q ((ma τ st).bind fun d st1 => (mb τ st1).bind fun d2 st2 => (match d, d2 with
    | .int i, .int j => if rgFits i j = true then Rs.ok (rangeD i j) st2 else .no
    | _, _ => .no).bind fun ds st3 => .ok (.tup ds) st3) := by
    unfold mTupOf mRgL2 at oo
    rw [Rs.bind_assoc] at oo
    simp only [Rs.bind_assoc] at oo
    exact oo
  refine tM.bind r0 en oo' fun d st1 ρ1 H1 v e1 r1 en1 q o1 => tM.bind r1 en1 o1 fun d2 st2 ρ2 H2 v2 e2 r2 en2 q2 o2 => ?_
  cases d with
  | int i =>
    cases d2 with
    | int j =>
      simp only [RelD] at q q2
      simp only at o2
      split at o2
      · rename_i h
        refine ⟨i, j, q, q2, rgFits_ok h, fun y hy => Out.free (d := D.tup (rangeD i j)) r2 o2 hy ?_⟩
        simp only [reD, RelD]
        exact ⟨y, _, rfl, upd_same, rg_rel _ _⟩
      · exact o2.elim
    | _ => exact o2.elim
  | _ => exact o2.elim
/-! ### short names -/
abbrev fSub := onII fun i j => .int (i - j)
noncomputable abbrev fFdiv := onIIc divFits fun i j => .int (i / j)
abbrev fMod := onIIc (fun _ j => decide (0 < j)) fun i j => .int (i % j)
abbrev fLt := onII fun i j => .bl (decide (i < j))
abbrev fLe := onII fun i j => .bl (decide (i ≤ j))
abbrev fGt := onII fun i j => .bl (decide (j < i))
abbrev fGe := onII fun i j => .bl (decide (j ≤ i))
abbrev fAll : FB D := onBls fun bs => .bl (bs.all id)
abbrev fAny : FB D := onBls fun bs => .bl (bs.any id)
abbrev fSum : FB D := onInts fun ns => .int ns.sum
abbrev fSorted : FB (List D) := onInts fun ns => (sortI ns).map D.int
/-- nothing is promised -/
theorem fn_none {P : Program} {w : World} {K : PySem.W.Frag} {mg : Str → Option Value} {base : Heap} {f : Addr} {fd : FuncData} {ps : List Str} : FnD P w K mg base 0 f fd ps fun _ _ => .no :=
  ⟨fun vs H Q E ⟨_, _, _, _, _, _, o⟩ => o.elim, fun A outer s H args us vs Q E _ _ _ _ ⟨_, _, _, _, _, _, o⟩ => o.elim⟩
end
end Fx

set_option Elab.async false
set_option linter.all false
set_option maxRecDepth 100000
set_option maxHeartbeats 4000000
namespace Fx
open PySem L2
/-! ### a def's function without what it leaves behind -/
open Classical in
noncomputable def gc (fs : FS) : FS := fun ds st => match fs ds st with
  | .no => .no
  | .ok d st' => if st'.take st.length = st ∨ (st.length ≤ st'.length ∧ WfS st.length (st'.take st.length)) then
      (if WfD st.length d then .ok d (st'.take st.length) else match d with
        | .loc i => (match st'[i]? with
          | some (.lst xs) => if WfDs st.length xs ∧ st.length ≤ i then .ok (.lst xs) (st'.take st.length) else .no
          | _ => .no)
        | _ => .no) else .no
  | .er x st' => if (st'.take st.length = st ∨ (st.length ≤ st'.length ∧ WfS st.length (st'.take st.length))) ∧ (∀ fs, x.fs = some fs → ∀ p ∈ fs, WfD st.length p.2) then .er x (st'.take st.length) else .no
theorem gc_side {st st' : Store} (w : WfS st.length st) (h : st'.take st.length = st ∨ (st.length ≤ st'.length ∧ WfS st.length (st'.take st.length))) : st.length ≤ st'.length ∧ (st'.take st.length).length = st.length ∧ WfS st.length (st'.take st.length) := by
  rcases h with h | ⟨h1, h2⟩
  · have hl : (st'.take st.length).length = st.length := by rw [h]
    refine ⟨?_, hl, by rw [h]; exact w⟩
    rw [List.length_take] at hl; omega
  · exact ⟨h1, by rw [List.length_take]; omega, h2⟩
theorem gc_ref {fs : FS} {ds : List D} {st : Store} (w : WfS st.length st) : Ref st.length (gc fs ds st) (fs ds st) := by
  unfold gc
  cases e : fs ds st with
  | no => exact trivial
  | ok d st' =>
    simp only
    split
    · rename_i h
      obtain ⟨h1, h2, h3⟩ := gc_side w h
      split
      · rename_i hw
        refine ⟨d, st'.drop st.length, by rw [List.take_append_drop], .refl (by rw [h2]; exact hw), by rw [h2]; exact h3, by rw [h2]; exact Nat.le_refl _⟩
      · split
        · rename_i i _
          split
          · rename_i xs hx
            split
            · rename_i hw
              refine ⟨.loc i, st'.drop st.length, by rw [List.take_append_drop], ?_, by rw [h2]; exact h3, by rw [h2]; exact Nat.le_refl _⟩
              rw [List.take_append_drop]
              exact .frz (by rw [h2]; exact hw.2) hx (Cvs.refl (by rw [h2]; exact hw.1))
            · exact trivial
          · exact trivial
        · exact trivial
    · exact trivial
  | er x st' =>
    simp only
    split
    · rename_i h
      obtain ⟨h1, h2, h3⟩ := gc_side w h.1
      exact ⟨st'.drop st.length, by rw [List.take_append_drop], by rw [h2]; exact h.2, by rw [h2]; exact h3, by rw [h2]; exact Nat.le_refl _⟩
    · exact trivial
theorem fn_gc {P : Program} {w : World} {K : PySem.W.Frag} {mg : Str → Option Value} {base : Heap} {k : Nat} {f : Addr} {fd : FuncData} {ps : List Str} {fs : FS} (F : FnD P w K mg base k f fd ps fs) : FnD P w K mg base k f fd ps (gc fs) :=
  fn_ref F fun ds st _ _ w => gc_ref w
theorem take_self {st g : Store} : (st ++ g).take st.length = st := by simp
theorem gc_ok {fs : FS} {ds : List D} {st : Store} {d : D} (g : Store) (h : fs ds st = .ok d (st ++ g)) (hd : WfD st.length d) : gc fs ds st = .ok d st := by
  unfold gc
  rw [h]
  dsimp only
  rw [if_pos (.inl take_self), if_pos hd, take_self]
theorem gc_ok' {fs : FS} {ds : List D} {st st1 : Store} {d : D} (g : Store) (h : fs ds st = .ok d (st1 ++ g)) (hl : st1.length = st.length) (w : WfS st.length st1) (hd : WfD st.length d) : gc fs ds st = .ok d st1 := by
  unfold gc
  rw [h]
  have e : (st1 ++ g).take st.length = st1 := by rw [← hl]; simp
  dsimp only
  rw [if_pos (.inr ⟨by rw [List.length_append, hl]; omega, by rw [e]; exact w⟩), if_pos hd, e]
theorem gc_lst {fs : FS} {ds : List D} {st : Store} {i : Nat} {xs : List D} (g : Store) (h : fs ds st = .ok (.loc i) (st ++ g)) (hi : st.length ≤ i) (hx : (st ++ g)[i]? = some (.lst xs)) (hd : WfDs st.length xs) : gc fs ds st = .ok (.lst xs) st := by
  unfold gc
  rw [h]
  dsimp only
  rw [if_pos (.inl take_self), if_neg (by simp only [WfD]; omega), hx]
  dsimp only
  rw [if_pos ⟨hd, hi⟩, take_self]
theorem gc_er {fs : FS} {ds : List D} {st : Store} {c : Addr} (g : Store) (h : fs ds st = .er ⟨c, none⟩ (st ++ g)) : gc fs ds st = .er ⟨c, none⟩ st := by
  unfold gc
  rw [h]
  dsimp only
  rw [if_pos ⟨.inl take_self, fun fs e => by cases e⟩, take_self]
mutual
/-- no object of the store in it -/
def lf : D → Bool
  | .tup xs => lfs xs
  | .lst xs => lfs xs
  | .loc _ => false
  | _ => true
def lfs : List D → Bool
  | [] => true
  | d :: ds => lf d && lfs ds
end
mutual
theorem wf_lf {n : Nat} : ∀ d : D, lf d = true → WfD n d
  | .tup xs, h => by simp only [lf] at h; simp only [WfD]; exact wf_lfs xs h
  | .lst xs, h => by simp only [lf] at h; simp only [WfD]; exact wf_lfs xs h
  | .loc _, h => by simp [lf] at h
  | .non, _ => by simp [WfD]
  | .bl _, _ => by simp [WfD]
  | .int _, _ => by simp [WfD]
  | .str _, _ => by simp [WfD]
  | .ty _, _ => by simp [WfD]
  | .fn _, _ => by simp [WfD]
theorem wf_lfs {n : Nat} : ∀ ds : List D, lfs ds = true → WfDs n ds
  | [], _ => by simp [WfDs]
  | d :: ds, h => by
    simp only [lfs, Bool.and_eq_true] at h
    simp only [WfDs]
    exact ⟨wf_lf d h.1, wf_lfs ds h.2⟩
end
theorem lfs_all {ds : List D} : lfs ds = ds.all lf := by
  induction ds with
  | nil => rfl
  | cons d ds ih => simp only [lfs, List.all_cons, ih]
@[simp] theorem lf_non : lf .non = true := rfl
@[simp] theorem lf_bl {b} : lf (.bl b) = true := rfl
@[simp] theorem lf_int {b} : lf (.int b) = true := rfl
@[simp] theorem lf_str {b} : lf (.str b) = true := rfl
@[simp] theorem lf_fn {b} : lf (.fn b) = true := rfl
@[simp] theorem lf_loc {b} : lf (.loc b) = false := rfl
@[simp] theorem lf_tup {b} : lf (.tup b) = b.all lf := by rw [lf, lfs_all]
@[simp] theorem lf_lst {b} : lf (.lst b) = b.all lf := by rw [lf, lfs_all]

/-! ### evaluation by simp -/
section
variable {σ τ : En} {st : Store} {m ma mb mc mo mi : SE} {ms : SA} {t u : SB} {a b : SS} {fs : FS} {i j k : Nat} {d x y : D}
@[simp] theorem x_mVar : mVar i σ st = match σ[i]? with
  | some (some d) => .ok d st
  | _ => .no := rfl
@[simp] theorem x_mC : mC d σ st = .ok d st := rfl
@[simp] theorem x_mNil : mNil σ st = .ok [] st := rfl
@[simp] theorem x_mCons : mCons m ms σ st = (m σ st).bind fun d st1 => (ms σ st1).bind fun ds st2 => .ok (d :: ds) st2 := rfl
@[simp] theorem x_mOp {f : D → D → Store → Rs D} : mOp f ma mb σ st = (ma σ st).bind fun x st1 => (mb σ st1).bind fun y st2 => f x y st2 := rfl
@[simp] theorem x_mB : mB m σ st = (m σ st).bind fun d st => match d with
  | .bl b => .ok b st
  | _ => .no := rfl
@[simp] theorem x_mAnd : mAnd t u σ st = (t σ st).bind fun c st1 => if c = true then u σ st1 else .ok false st1 := rfl
@[simp] theorem x_mOr : mOr t u σ st = (t σ st).bind fun c st1 => if c = true then .ok true st1 else u σ st1 := rfl
@[simp] theorem x_mNot : mNot t σ st = (t σ st).bind fun c st1 => .ok (!c) st1 := rfl
@[simp] theorem x_mAndV : mAndV ma mb σ st = (ma σ st).bind fun x st1 => match x with
  | .bl true => mb σ st1
  | .bl false => .ok (.bl false) st1
  | _ => .no := rfl
@[simp] theorem x_mOrV : mOrV ma mb σ st = (ma σ st).bind fun x st1 => match x with
  | .bl false => mb σ st1
  | .bl true => .ok (.bl true) st1
  | _ => .no := rfl
@[simp] theorem x_mNotV : mNotV ma σ st = (ma σ st).bind fun x st1 => match x with
  | .bl b => .ok (.bl (!b)) st1
  | _ => .no := rfl
@[simp] theorem x_mIf : mIf t ma mb σ st = (t σ st).bind fun c st1 => if c = true then ma σ st1 else mb σ st1 := rfl
@[simp] theorem x_mTup : mTup ms σ st = (ms σ st).bind fun ds st1 => .ok (.tup ds) st1 := rfl
@[simp] theorem x_mNew : mNew ms σ st = (ms σ st).bind fun ds st1 => .ok (.loc st1.length) (st1 ++ [.lst ds]) := rfl
@[simp] theorem x_mFrz : mFrz ms σ st = (ms σ st).bind fun ds st1 => .ok (.lst ds) st1 := rfl
@[simp] theorem x_sSkip : sSkip τ st = .nx τ st := rfl
@[simp] theorem x_sSeq : sSeq a b τ st = (a τ st).seq b := rfl
@[simp] theorem x_sExpr : sExpr m τ st = (m τ st).go τ fun _ st1 => .nx τ st1 := rfl
@[simp] theorem x_sRet : sRet m τ st = (m τ st).go τ fun d st1 => .rt d st1 := rfl
@[simp] theorem x_sRetN : sRetN τ st = .rt .non st := rfl
@[simp] theorem x_sIf : sIf t a b τ st = (t τ st).go τ fun c st1 => if c = true then a τ st1 else b τ st1 := rfl
@[simp] theorem x_sSet : sSet i m τ st = (m τ st).go τ fun d st1 => .nx (τ.set i (some d)) st1 := rfl
@[simp] theorem x_sBrk : sBrk τ st = .bk τ st := rfl
@[simp] theorem x_sCnt : sCnt τ st = .ct τ st := rfl
@[simp] theorem x_gN : gN i d τ = some (τ.set i (some d)) := rfl
@[simp] theorem x_gsNil : gsNil [] τ = some τ := rfl
@[simp] theorem x_gsCons {g : SG} {gs : List D → En → Option En} {ds : List D} : gsCons g gs (d :: ds) τ = (g d τ).bind (gs ds) := rfl
@[simp] theorem x_gT {gs : List D → En → Option En} {ds : List D} : gT gs (.tup ds) τ = gs ds τ := rfl
@[simp] theorem x_sAsg {g : SG} : sAsg g m τ st = (m τ st).go τ fun d st1 => match g d τ with
  | some τ' => .nx τ' st1
  | none => .no := rfl
@[simp] theorem x_sPar : sPar i j ma mb τ st = (ma τ st).go τ fun d st1 => (mb τ st1).go τ fun d2 st2 => .nx ((τ.set i (some d)).set j (some d2)) st2 := rfl
@[simp] theorem x_sPar3 : sPar3 i j k ma mb mc τ st = (ma τ st).go τ fun d st1 => (mb τ st1).go τ fun d2 st2 => (mc τ st2).go τ fun d3 st3 => .nx (((τ.set i (some d)).set j (some d2)).set k (some d3)) st3 := rfl
@[simp] theorem x_mItems : mItems m σ st = (m σ st).bind fun d st => match d with
  | .tup ds => .ok ds st
  | .lst ds => .ok ds st
  | _ => .no := rfl
@[simp] theorem x_mRng1 : mRng1 m σ st = (m σ st).bind fun d st1 => match d with
  | .int j => if w62 j = true then .ok (rangeD 0 j) st1 else .no
  | _ => .no := rfl
@[simp] theorem x_mRng2 : mRng2 ma mb σ st = (ma σ st).bind fun d st1 => (mb σ st1).bind fun d2 st2 => match d, d2 with
  | .int i, .int j => if w62 i = true ∧ w62 j = true then .ok (rangeD i j) st2 else .no
  | _, _ => .no := rfl
@[simp] theorem x_forS_nil {g : SG} : forS g a [] τ st = .nx τ st := rfl
theorem x_forS_cons {g : SG} {ds : List D} : forS g a (d :: ds) τ st = match g d τ with
  | none => .no
  | some τ1 => (a τ1 st).loop (forS g a ds) := rfl
@[simp] theorem x_sFor {g : SG} {mi : SA} : sFor mi g a τ st = (mi τ st).go τ fun ds st1 => forS g a ds τ st1 := rfl
@[simp] theorem x_mYes : mYes τ st = .ok true st := rfl
@[simp] theorem x_mComp {mi : SA} {g : SG} {vs : List Nat} : mComp mi g t m vs τ st = (mi τ st).bind fun ds st1 => compS g t m vs ds τ st1 [] := rfl
@[simp] theorem x_mCall : mCall fs ms τ st = (ms τ st).bind fs := rfl
@[simp] theorem x_onII {f : Int → Int → D} {i j : Int} : onII f (.int i) (.int j) st = .ok (f i j) st := rfl
@[simp] theorem x_onIIc {c : Int → Int → Bool} {f : Int → Int → D} {i j : Int} : onIIc c f (.int i) (.int j) st = if c i j = true then .ok (f i j) st else .no := rfl
@[simp] theorem x_addI {i j : Int} : fAdd (.int i) (.int j) st = .ok (.int (i + j)) st := rfl
@[simp] theorem x_addT {a b : List D} : fAdd (.tup a) (.tup b) st = if szFits (a.length + b.length) = true then .ok (.tup (a ++ b)) st else .no := rfl
@[simp] theorem x_mulI {i j : Int} : fMul (.int i) (.int j) st = if mulFits i j = true then .ok (.int (i * j)) st else .no := rfl
@[simp] theorem x_mulT {a : List D} {k : Int} : fMul (.tup a) (.int k) st = if repFits a.length k = true then .ok (.tup (List.replicate k.toNat a).flatten) st else .no := rfl
@[simp] theorem x_mNeg : mNeg m σ st = (m σ st).bind fun d st1 => match d with
  | .int i => .ok (.int (-i)) st1
  | _ => .no := rfl
@[simp] theorem x_mChain {f g : D → D → Store → Rs D} : mChain f g ma mb mc σ st = (ma σ st).bind fun x st1 => (mb σ st1).bind fun y st2 => (f x y st2).bind fun z st3 => match z with
  | .bl true => (mc σ st3).bind fun u st4 => g y u st4
  | .bl false => .ok (.bl false) st3
  | _ => .no := rfl
@[simp] theorem x_mFn {α : Type} {fb : FB α} : mFn fb ms σ st = (ms σ st).bind fb := rfl
@[simp] theorem x_lenT {xs : List D} : fLen [.tup xs] st = .ok (.int xs.length) st := rfl
@[simp] theorem x_lenL {xs : List D} : fLen [.lst xs] st = .ok (.int xs.length) st := rfl
theorem x_lenLoc {xs : List D} (h : st[i]? = some (.lst xs)) : fLen [.loc i] st = .ok (.int xs.length) st := by simp [fLen, seqOf, h]
@[simp] theorem x_abs {i : Int} : fAbs [.int i] st = .ok (.int (if i < 0 then -i else i)) st := rfl
@[simp] theorem x_int {i : Int} : fInt [.int i] st = .ok (.int i) st := rfl
@[simp] theorem x_tupleT {xs : List D} : fTuple [.tup xs] st = .ok (.tup xs) st := rfl
@[simp] theorem x_tupleL {xs : List D} : fTuple [.lst xs] st = .ok (.tup xs) st := rfl
theorem x_tupleLoc {xs : List D} (h : st[i]? = some (.lst xs)) : fTuple [.loc i] st = .ok (.tup xs) st := by simp [fTuple, seqOf, h]
@[simp] theorem x_listT {xs : List D} : fList [.tup xs] st = .ok xs st := rfl
@[simp] theorem x_listL {xs : List D} : fList [.lst xs] st = .ok xs st := rfl
theorem x_listLoc {xs : List D} (h : st[i]? = some (.lst xs)) : fList [.loc i] st = .ok xs st := by simp [fList, seqOf, h]
@[simp] theorem x_onBls {f : List Bool → D} {bs : List Bool} : onBls f [.lst (bs.map .bl)] st = .ok (f bs) st := by simp [onBls, listOf]
@[simp] theorem x_onBls0 {f : List Bool → D} : onBls f [.lst []] st = .ok (f []) st := by simp [onBls, listOf, blsOf]
@[simp] theorem x_onInts {α : Type} {f : List Int → α} {bs : List Int} : onInts f [.lst (bs.map .int)] st = .ok (f bs) st := by simp [onInts, listOf]
@[simp] theorem x_ixT {xs : List D} {k : Int} : fIx (.tup xs) (.int k) st = match atI xs k with
  | some d => .ok d st
  | none => .no := by simp only [fIx, seqOf] <;> (cases atI xs k <;> rfl)
@[simp] theorem x_ixL {xs : List D} {k : Int} : fIx (.lst xs) (.int k) st = match atI xs k with
  | some d => .ok d st
  | none => .no := by simp only [fIx, seqOf] <;> (cases atI xs k <;> rfl)
theorem x_ixLoc {xs : List D} {k : Int} (h : st[i]? = some (.lst xs)) : fIx (.loc i) (.int k) st = match atI xs k with
  | some d => .ok d st
  | none => .no := by simp only [fIx, seqOf, h] <;> (cases atI xs k <;> rfl)
@[simp] theorem x_mNoPart : mNoPart σ st = .ok none st := rfl
@[simp] theorem x_mPart : mPart m σ st = (m σ st).bind fun d st1 => match d with
  | .int i => .ok (some i) st1
  | _ => .no := rfl
@[simp] theorem x_slT {xs : List D} {lo hi : Option Int} : fSl (.tup xs) lo hi st = .ok (.tup (cutD xs lo hi)) st := rfl
@[simp] theorem x_slL {xs : List D} {lo hi : Option Int} : fSl (.lst xs) lo hi st = .ok (.lst (cutD xs lo hi)) st := by simp [fSl, listOf]
@[simp] theorem x_mSl {f : D → Option Int → Option Int → Store → Rs D} {ml mh : SO} : mSl f m ml mh σ st = (m σ st).bind fun d st1 => (ml σ st1).bind fun lo st2 => (mh σ st2).bind fun hi st3 => f d lo hi st3 := rfl
@[simp] theorem x_sSub {f : D → D → D → Store → Option Store} : sSub f mo mi m τ st = (m τ st).go τ fun d st1 => (mo τ st1).go τ fun ob st2 => (mi τ st2).go τ fun k st3 => match f ob k d st3 with
  | some st4 => .nx τ st4
  | none => .no := rfl
@[simp] theorem x_mDNewK : mDNewK σ st = .ok (.loc st.length) (st ++ [.dk []]) := rfl
@[simp] theorem x_mMeth {fm : FM} : mMeth fm mo ms σ st = (mo σ st).bind fun ob st1 => match listOf ob st1 with
  | some _ => (ms σ st1).bind fun ds st2 => fm ob ds st2
  | none => .no := rfl
@[simp] theorem x_mRgL1 : mRgL1 m σ st = (m σ st).bind fun d st1 => match d with
  | .int j => if rgFits 0 j = true then .ok (rangeD 0 j) st1 else .no
  | _ => .no := rfl
@[simp] theorem x_mRgL2 : mRgL2 ma mb σ st = (ma σ st).bind fun d st1 => (mb σ st1).bind fun d2 st2 => match d, d2 with
  | .int i, .int j => if rgFits i j = true then .ok (rangeD i j) st2 else .no
  | _, _ => .no := rfl
@[simp] theorem x_mTupOf : mTupOf ms σ st = (ms σ st).bind fun ds st1 => .ok (.tup ds) st1 := rfl
@[simp] theorem x_mMulD : mMulD ms mb σ st = (ms σ st).bind fun xs st1 => (mb σ st1).bind fun y st2 => match y with
  | .int k => if w63 k = true ∧ szFits (xs.length * k.toNat) = true then .ok (List.replicate k.toNat xs).flatten st2 else .no
  | _ => .no := rfl
@[simp] theorem x_mIsi {T : Ty} : mIsi m T σ st = (m σ st).bind fun d st1 => match tyD d st1 with
  | some t => .ok (.bl (t.sub T)) st1
  | none => .no := rfl
@[simp] theorem x_mIsi2 {T U : Ty} : mIsi2 m T U σ st = (m σ st).bind fun d st1 => match tyD d st1 with
  | some t => .ok (.bl (t.sub T || t.sub U)) st1
  | none => .no := rfl
@[simp] theorem x_ty_non : tyD .non st = some .non := rfl
@[simp] theorem x_ty_bl {b : Bool} : tyD (.bl b) st = some .bool := rfl
@[simp] theorem x_ty_int {b : Int} : tyD (.int b) st = some .int := rfl
@[simp] theorem x_ty_str {b : Str} : tyD (.str b) st = some .str := rfl
@[simp] theorem x_ty_tup {b : List D} : tyD (.tup b) st = some .tup := rfl
@[simp] theorem x_ty_lst {b : List D} : tyD (.lst b) st = some .list := rfl
@[simp] theorem x_sub {a b : Ty} : Ty.sub a b = (decide (a = b) || (decide (a = .bool) && decide (b = .int))) := rfl
@[simp] theorem x_mEnum : mEnum m σ st = (m σ st).bind fun d st => match d with
  | .tup ds => .ok (enumD ds) st
  | .lst ds => .ok (enumD ds) st
  | _ => .no := by
  unfold mEnum itemsOf
  rw [Rs.bind_assoc]
  congr 1
  funext d st
  cases d <;> rfl
@[simp] theorem x_sRaise {c : Addr} : sRaise c τ st = .er ⟨c, none⟩ τ st := rfl
@[simp] theorem x_sTry {leafs : List Addr} {hs : List Hd} : sTry leafs a hs τ st = match a τ st with
  | .er x τ' st' => if x.cls ∈ leafs then sHandle x hs τ' st' else .no
  | r => r := rfl
@[simp] theorem x_sHandle {x : Ex} {c : Addr} {f : Ex → SS} {r : List Hd} : sHandle x ((c, f) :: r) τ st = if x.cls = c then f x τ st else sHandle x r τ st := rfl
@[simp] theorem x_fIs_bl {a b : Bool} : fIs (.bl a) (.bl b) st = .ok (.bl (decide (a = b))) st := rfl
@[simp] theorem x_fIs_n : fIs .non .non st = .ok (.bl true) st := rfl
@[simp] theorem x_fIs_b {a : Bool} : fIs (.bl a) .non st = .ok (.bl false) st := rfl
@[simp] theorem x_fIs_i {a : Int} : fIs (.int a) .non st = .ok (.bl false) st := rfl
@[simp] theorem x_fIs_s {a : Str} : fIs (.str a) .non st = .ok (.bl false) st := rfl
@[simp] theorem x_fIs_t {a : List D} : fIs (.tup a) .non st = .ok (.bl false) st := rfl
@[simp] theorem x_fIs_l {a : List D} : fIs (.lst a) .non st = .ok (.bl false) st := rfl
@[simp] theorem x_fIs_f {a : Addr} : fIs (.fn a) .non st = .ok (.bl false) st := rfl
@[simp] theorem x_fIsNot : fIsNot x y st = (fIs x y st).bind fun d st1 => match d with
  | .bl b => .ok (.bl (!b)) st1
  | _ => .no := rfl
theorem runF_rt {N : List Str} {m : SS} {ds : List D} {st' : Store} (h : m (ds.map some ++ List.replicate (N.length - ds.length) none) st = .rt d st') : runF N m ds st = .ok d st' := by simp [runF, h]
theorem runF_nx {N : List Str} {m : SS} {ds : List D} {τ' : En} {st' : Store} (h : m (ds.map some ++ List.replicate (N.length - ds.length) none) st = .nx τ' st') : runF N m ds st = .ok .non st' := by simp [runF, h]
theorem runF_er {N : List Str} {m : SS} {ds : List D} {x : Ex} {τ' : En} {st' : Store} (h : m (ds.map some ++ List.replicate (N.length - ds.length) none) st = .er x τ' st') : runF N m ds st = .er x st' := by simp [runF, h]
theorem w62_of {j : Int} (h1 : -1000000000 ≤ j) (h2 : j ≤ 1000000000) : w62 j = true := w62_iff.mpr (by omega)
theorem w63_of {j : Int} (h1 : -1000000000 ≤ j) (h2 : j ≤ 1000000000) : w63 j = true := w63_iff.mpr (by omega)
theorem rgFits_of {i j : Int} (h1 : -1000000 ≤ i) (h2 : i ≤ 1000000) (h3 : -1000000 ≤ j) (h4 : j ≤ 1000000) : rgFits i j = true := by
  exact (ex_rgFits.choose_spec i j).mpr ⟨by omega, by omega, by omega, by omega, by omega⟩
theorem szFits_of {n : Nat} (h : n ≤ 1000) : szFits n = true := szFits_iff.mpr (Nat.le_of_lt (small1000 h))
theorem szFits_of1 {n : Nat} (h : n ≤ 1000) : szFits (n + 1) = true := szFits_lt.mpr (small1000 h)
/-! the store, seen from its first part -/
@[simp] theorem st_get {l : Store} : (st ++ l)[st.length + k]? = l[k]? := by rw [List.getElem?_append_right (by omega)]; congr 1; omega
@[simp] theorem st_get0 {l : Store} : (st ++ l)[st.length]? = l[0]? := st_get (k := 0)
@[simp] theorem st_set {l : Store} {o : O} : (st ++ l).set (st.length + k) o = st ++ l.set k o := by rw [List.set_append_right _ _ (by omega)]; congr 2; omega
@[simp] theorem st_set0 {l : Store} {o : O} : (st ++ l).set st.length o = st ++ l.set 0 o := st_set (k := 0)
theorem st_old {l : Store} {o : O} (h : st[i]? = some o) : (st ++ l)[i]? = some o := by rw [List.getElem?_append_left (List.getElem?_eq_some_iff.mp h).1]; exact h
end
end Fx

set_option Elab.async false
set_option linter.all false
set_option maxRecDepth 100000
set_option maxHeartbeats 4000000
namespace Fx
open PySem L2
/-! ### the end -/
def spLaw (K : PySem.W.Frag) : Sp := fun vs H Q _ => ∃ (a : Addr) (ns : List Int), vs = [.ref a] ∧ SqL K H a (ns.map V.int) ∧ ns.length ≤ 63 ∧ ∀ H', Q (.bl true) H'
theorem relDs_ints {K : PySem.W.Frag} {ρ : Mp} {n : Nat} {H : Hp} : ∀ ns : List Int, RelDs K ρ n H (ns.map D.int) (ns.map V.int)
  | [] => .nil
  | i :: r => .cons (by simp [RelD]) (relDs_ints r)
theorem law_imp {P : Program} {w : World} {K : PySem.W.Frag} {mg : Str → Option Value} {base : Heap} {k : Nat} {f : Addr} {fd : FuncData} {x : Str} {fs : FS} (F : FnD P w K mg base k f fd [x] fs)
    (h : ∀ ns : List Int, ns.length ≤ 63 → ∃ st', fs [.lst (ns.map D.int)] [] = .ok (.bl true) st') : FnOk P w K mg base (L2.CX P w) k f fd [x] (spLaw K) := by
  refine FnOk.imp F fun vs H Q E ⟨a, ns, e, hS, hl, q⟩ => ?_
  obtain ⟨st', e2⟩ := h ns hl
  refine ⟨⟨fun _ => 0, fun _ => False⟩, [], [.lst (ns.map D.int)], rfl, ⟨fun i o h => by simp at h, fun i j h => absurd h (Nat.not_lt_zero _), fun a h => h.elim, fun i h => absurd h (Nat.not_lt_zero _)⟩, ?_, ?_⟩
  · rw [e]
    refine .cons ?_ .nil
    simp only [RelD]
    refine ⟨a, _, rfl, ?_, relDs_ints ns⟩
    rcases hS with h | h
    · exact .inl ⟨h, fun i hi => absurd hi (Nat.not_lt_zero _), fun z => z⟩
    · exact .inr h
  · rw [e2]
    intro ρ' H' v _ _ rd
    simp only [reD, RelD] at rd
    rw [rd]; exact q H'
theorem cx_never {P : Program} {w : World} {o : List PySem.Env} {H : Hp} {s : Shared} {e : Value} {s' : Shared} (h : L2.CX P w o H s (fun _ _ _ => False) e s') : False := by
  obtain ⟨_, _, _, _, _, _, _, _, _, _, _, _, z⟩ := h
  exact z
theorem walkF {l : PySem.W.OpenLaw} {k : Nat} {q : Program} {loose : List Str} {XP : (Str → Option Value) → Heap → Prop} {YP : World → Heap → Prop} {d : DefRec} {K : Params → PySem.W.Frag} (hn : l.most = some 63) (hdf : d.params.defaults = [])
    (hr : Room k callerA) (hY : ∀ (w : World) (h : Heap), YP w h → (K w.params).In h)
    (F : ∀ (w : World) (mg : Str → Option Value) (fa : Addr) (h : Heap), (K w.params).In h → h.Ns mainGlobals mg → mg d.name = some (.ref fa) →
      ∃ fd : FuncData, (∀ (s : Shared) (u : Value), BindsTo s fd ⟨[u], []⟩ [("script", u)]) ∧ ∀ base : Heap, (K w.params).In base → base.Ns mainGlobals mg → FnOk l.prog w (K w.params) mg base (L2.CX l.prog w) k fa fd ["script"] (spLaw (K w.params))) :
    PySem.W.WalkO q loose XP YP l.row.toRowW d [] (fun f vs => PySem.call f vs) :=
  L2.walk_of (n := 63) (k := k) (x := "script") (CX := fun w => L2.CX l.prog w) (sp := fun w => spLaw (K w.params)) hn (by decide) hdf hr hY F (fun _ _ a ns hl _ hS => ⟨a, ns, rfl, hS, hl, fun _ => rfl⟩) fun _ _ _ _ _ z => cx_never z
theorem exm_own {K : PySem.W.Frag} {S C : Addr} {b : Bool} (h1 : PySem.W.subIn K (.ref S) (.type "BaseException") = some true) (h2 : PySem.W.isClsIn K C = true) (h3 : PySem.W.typeIn K (.ref C) = some (.type "type")) (h5 : PySem.W.subIn K (.ref C) (.type "BaseException") = some true) (h4 : PySem.W.subIn K (.ref S) (.ref C) = some b) :
    PySem.W.exmOne K (.ref S) (.ref C) = some b := by
  have e1 : (PySem.W.subIn K (.ref C) (.type "BaseException") == some true) = true := by rw [h5] <;> rfl
  have e2 : ((PySem.W.clsIn K C).isSome && PySem.W.typeIn K (.ref C) == some (.type "type")) = true := by
    have h2' : (PySem.W.clsIn K C).isSome = true := h2
    rw [h2', h3] <;> rfl
  show (if (PySem.W.subIn K (.ref C) (.type "BaseException") == some true) = true then (if ((PySem.W.clsIn K C).isSome && PySem.W.typeIn K (.ref C) == some (.type "type")) = true then PySem.W.subIn K (.ref S) (.ref C) else none) else none) = some b
  rw [if_pos e1, if_pos e2]
  exact h4
theorem apart1 {K : PySem.W.Frag} {C : Addr} (h : PySem.W.exmOne K (.ref C) (.ref C) = some true) : Apart K [C] := fun a ha c hc => by
  rw [List.mem_singleton] at ha hc
  subst ha hc
  rw [decide_eq_true rfl]; exact h
theorem apart2 {K : PySem.W.Frag} {C E : Addr} (hne : C ≠ E) (h : PySem.W.exmOne K (.ref C) (.ref C) = some true) (h2 : PySem.W.exmOne K (.ref E) (.ref E) = some true) (h3 : PySem.W.exmOne K (.ref C) (.ref E) = some false) (h4 : PySem.W.exmOne K (.ref E) (.ref C) = some false) : Apart K [C, E] := fun a ha c hc => by
  simp only [List.mem_cons, List.not_mem_nil, or_false] at ha hc
  rcases ha with rfl | rfl <;> rcases hc with rfl | rfl
  · rw [decide_eq_true rfl]; exact h
  · rw [decide_eq_false hne]; exact h3
  · rw [decide_eq_false (Ne.symm hne)]; exact h4
  · rw [decide_eq_true rfl]; exact h2
end Fx

set_option Elab.async false
set_option linter.all false
set_option maxRecDepth 100000
set_option maxHeartbeats 4000000
namespace Fx
open PySem L2
/-! ### loops -/
section
variable {g : SG} {b : SS} {t : SB} {m : SE} {vs : List Nat} {τ : En}
@[simp] theorem wipeE_nil {σ : En} : wipeE σ [] = σ := rfl
@[simp] theorem wipeE_cons {σ : En} {v : Nat} {vs : List Nat} : wipeE σ (v :: vs) = (wipeE σ vs).set v none := rfl
theorem forS_ind {P : List D → En → Store → Prop} (step : ∀ d ds τ st, P (d :: ds) τ st → ∃ τ1, g d τ = some τ1 ∧ ∃ τ2 st2, (b τ1 st = .nx τ2 st2 ∨ b τ1 st = .ct τ2 st2) ∧ P ds τ2 st2) :
    ∀ ds τ st, P ds τ st → ∃ τ' st', forS g b ds τ st = .nx τ' st' ∧ P [] τ' st'
  | [], τ, st, h => ⟨τ, st, rfl, h⟩
  | d :: ds, τ, st, h => by
    obtain ⟨τ1, e1, τ2, st2, e2, h2⟩ := step d ds τ st h
    obtain ⟨τ', st', e3, h3⟩ := forS_ind step ds τ2 st2 h2
    refine ⟨τ', st', ?_, h3⟩
    rw [x_forS_cons, e1]
    rcases e2 with e2 | e2 <;> · dsimp only; rw [e2]; exact e3
theorem forS_ret {P : List D → En → Store → Prop} {Q : D → Store → Prop} (step : ∀ d ds τ st, P (d :: ds) τ st → ∃ τ1, g d τ = some τ1 ∧ ((∃ τ2 st2, (b τ1 st = .nx τ2 st2 ∨ b τ1 st = .ct τ2 st2) ∧ P ds τ2 st2) ∨ ∃ x st2, b τ1 st = .rt x st2 ∧ Q x st2)) :
    ∀ ds τ st, P ds τ st → (∃ τ' st', forS g b ds τ st = .nx τ' st' ∧ P [] τ' st') ∨ ∃ x st', forS g b ds τ st = .rt x st' ∧ Q x st'
  | [], τ, st, h => .inl ⟨τ, st, rfl, h⟩
  | d :: ds, τ, st, h => by
    obtain ⟨τ1, e1, h1⟩ := step d ds τ st h
    rcases h1 with ⟨τ2, st2, e2, h2⟩ | ⟨x, st2, e2, h2⟩
    · have e : forS g b (d :: ds) τ st = forS g b ds τ2 st2 := by
        rw [x_forS_cons, e1]
        rcases e2 with e2 | e2 <;> · dsimp only; rw [e2]; rfl
      rw [e]
      exact forS_ret step ds τ2 st2 h2
    · exact .inr ⟨x, st2, by rw [x_forS_cons, e1]; dsimp only; rw [e2]; rfl, h2⟩
theorem compS_ind {P : List D → Store → List D → Prop} (step : ∀ d ds st acc, P (d :: ds) st acc → ∃ τ1, g d (wipeE τ vs) = some τ1 ∧ ((∃ st1 y st2, t τ1 st = .ok true st1 ∧ m τ1 st1 = .ok y st2 ∧ acc.length < sizeLine ∧ P ds st2 (acc ++ [y])) ∨ ∃ st1, t τ1 st = .ok false st1 ∧ P ds st1 acc)) :
    ∀ ds st acc, P ds st acc → ∃ st' acc', compS g t m vs ds τ st acc = .ok acc' st' ∧ P [] st' acc'
  | [], st, acc, h => ⟨st, acc, rfl, h⟩
  | d :: ds, st, acc, h => by
    obtain ⟨τ1, e1, h1⟩ := step d ds st acc h
    rcases h1 with ⟨st1, y, st2, e2, e3, hl, h2⟩ | ⟨st1, e2, h2⟩
    · obtain ⟨st', acc', e4, h3⟩ := compS_ind step ds st2 _ h2
      exact ⟨st', acc', by rw [compS, e1]; dsimp only; rw [e2]; dsimp only; rw [e3]; dsimp only; rw [if_pos hl]; exact e4, h3⟩
    · obtain ⟨st', acc', e4, h3⟩ := compS_ind step ds st1 _ h2
      exact ⟨st', acc', by rw [compS, e1]; dsimp only; rw [e2]; exact e4, h3⟩
theorem compS_map {f : D → D} {st : Store} : ∀ (ds acc : List D), (∀ d ∈ ds, ∃ τ1, g d (wipeE τ vs) = some τ1 ∧ t τ1 st = .ok true st ∧ m τ1 st = .ok (f d) st) → acc.length + ds.length ≤ sizeLine → compS g t m vs ds τ st acc = .ok (acc ++ ds.map f) st
  | [], acc, _, _ => by simp [compS]
  | d :: ds, acc, h, hl => by
    obtain ⟨τ1, e1, e2, e3⟩ := h d List.mem_cons_self
    have hl' : acc.length < sizeLine := by simp only [List.length_cons] at hl; omega
    rw [compS, e1]
    dsimp only
    rw [e2]
    dsimp only
    rw [e3]
    dsimp only
    rw [if_pos hl', compS_map ds _ (fun d hd => h d (List.mem_cons_of_mem _ hd)) (by simp only [List.length_append, List.length_cons, List.length_nil] at hl ⊢; omega)]
    simp
theorem compS_filter {f : D → D} {p : D → Bool} {st : Store} : ∀ (ds acc : List D), (∀ d ∈ ds, ∃ τ1, g d (wipeE τ vs) = some τ1 ∧ t τ1 st = .ok (p d) st ∧ (p d = true → m τ1 st = .ok (f d) st)) → acc.length + ds.length ≤ sizeLine → compS g t m vs ds τ st acc = .ok (acc ++ (ds.filter p).map f) st
  | [], acc, _, _ => by simp [compS]
  | d :: ds, acc, h, hl => by
    obtain ⟨τ1, e1, e2, e3⟩ := h d List.mem_cons_self
    have hl' : acc.length < sizeLine := by simp only [List.length_cons] at hl; omega
    have hr := fun a => compS_filter (f := f) (p := p) ds a (fun d hd => h d (List.mem_cons_of_mem _ hd))
    rw [compS, e1]
    dsimp only
    rw [e2]
    cases q : p d with
    | true =>
      dsimp only
      rw [e3 q]
      dsimp only
      rw [if_pos hl', hr _ (by simp only [List.length_append, List.length_cons, List.length_nil] at hl ⊢; omega)]
      simp [q]
    | false =>
      dsimp only
      rw [hr _ (by simp only [List.length_cons] at hl; omega)]
      simp [q]
theorem sWhile_ind {P : Nat → En → Store → Prop} {R : En → Store → Prop} (step : ∀ n τ st, P (n + 1) τ st → ∃ st1 τ2 st2, t τ st = .ok true st1 ∧ (b τ st1 = .nx τ2 st2 ∨ b τ st1 = .ct τ2 st2) ∧ P n τ2 st2)
    (stop : ∀ τ st, P 0 τ st → ∃ st1, t τ st = .ok false st1 ∧ R τ st1) : ∀ n τ st, P n τ st → ∃ τ' st', sWhile t b τ st = .nx τ' st' ∧ R τ' st'
  | 0, τ, st, h => by
    obtain ⟨st1, e, r⟩ := stop τ st h
    exact ⟨τ, st1, by rw [sWhile_eq, e]; rfl, r⟩
  | n + 1, τ, st, h => by
    obtain ⟨st1, τ2, st2, e1, e2, h2⟩ := step n τ st h
    obtain ⟨τ', st', e3, r⟩ := sWhile_ind step stop n τ2 st2 h2
    refine ⟨τ', st', ?_, r⟩
    rw [sWhile_eq, e1]
    rcases e2 with e2 | e2 <;> · simp only [Rs.go_ok, if_true]; rw [e2]; exact e3
end
/-! ### equality -/
def Fl (k : Nat) (d : D) : Prop := dOk d = true ∧ (toPy d).depth ≤ k
theorem dOks_all : ∀ {ds : List D}, dOks ds = true ↔ ∀ d ∈ ds, dOk d = true
  | [] => by simp [dOks]
  | d :: ds => by simp [dOks, dOks_all]
theorem depths_le {k : Nat} : ∀ {ds : List D}, (∀ d ∈ ds, (toPy d).depth ≤ k) → PyData.depthAll (toPys ds) ≤ k
  | [], _ => by simp [toPys, PyData.depthAll]
  | d :: ds, h => by
    simp only [toPys, PyData.depthAll]
    exact Nat.max_le.mpr ⟨h d List.mem_cons_self, depths_le fun d hd => h d (List.mem_cons_of_mem _ hd)⟩
theorem Fl.int {k : Nat} {i : Int} : Fl k (.int i) := ⟨by simp [dOk], by simp [toPy, PyData.depth]⟩
theorem Fl.non {k : Nat} : Fl k .non := ⟨by simp [dOk], by simp [toPy, PyData.depth]⟩
theorem Fl.bl {k : Nat} {i : Bool} : Fl k (.bl i) := ⟨by simp [dOk], by simp [toPy, PyData.depth]⟩
theorem Fl.str {k : Nat} {i : Str} (h : PyData.strOk i = true) : Fl k (.str i) := ⟨by simp [dOk, h], by simp [toPy, PyData.depth]⟩
theorem Fl.tup {k : Nat} {xs : List D} (h : ∀ x ∈ xs, Fl k x) : Fl (k + 1) (.tup xs) := ⟨by simp only [dOk]; exact dOks_all.mpr fun x hx => (h x hx).1, by simp only [toPy, PyData.depth]; exact Nat.succ_le_succ (depths_le fun x hx => (h x hx).2)⟩
theorem Fl.lst {k : Nat} {xs : List D} (h : ∀ x ∈ xs, Fl k x) : Fl (k + 1) (.lst xs) := ⟨by simp only [dOk]; exact dOks_all.mpr fun x hx => (h x hx).1, by simp only [toPy, PyData.depth]; exact Nat.succ_le_succ (depths_le fun x hx => (h x hx).2)⟩
theorem Fl.sh {k : Nat} {d : D} (h : Fl k d) (hk : k ≤ 64 := by decide) : shD d = true := by
  unfold shD
  rw [h.1, decide_eq_true (Nat.le_trans h.2 hk)]; rfl
theorem eqD_refl {d : D} (h : dOk d = true) : eqD d d = true := PySem.SeqAt.eqv_refl _ (canLay_of d h)
theorem fEq_self {d : D} {st : Store} {k : Nat} (h : Fl k d) (hk : k ≤ 64 := by decide) : fEq d d st = .ok (.bl true) st := by
  unfold fEq
  rw [if_pos ⟨h.sh hk, h.sh hk⟩, eqD_refl h.1]
theorem fNe_self {d : D} {st : Store} {k : Nat} (h : Fl k d) (hk : k ≤ 64 := by decide) : fNe d d st = .ok (.bl false) st := by
  unfold fNe
  rw [if_pos ⟨h.sh hk, h.sh hk⟩, eqD_refl h.1]; rfl
@[simp] theorem fEq_int {i j : Int} {st : Store} : fEq (.int i) (.int j) st = .ok (.bl (decide (i = j))) st := by
  unfold fEq
  rw [if_pos ⟨(Fl.int (k := 0)).sh, (Fl.int (k := 0)).sh⟩]
  have : eqD (.int i) (.int j) = decide (i = j) := by
    unfold eqD
    simp only [toPy, PyData.eqv]
    by_cases h : i = j
    · subst h; simp
    · simp [h]
  rw [this]
@[simp] theorem fNe_int {i j : Int} {st : Store} : fNe (.int i) (.int j) st = .ok (.bl (!decide (i = j))) st := by
  unfold fNe
  rw [if_pos ⟨(Fl.int (k := 0)).sh, (Fl.int (k := 0)).sh⟩]
  have : eqD (.int i) (.int j) = decide (i = j) := by
    unfold eqD
    simp only [toPy, PyData.eqv]
    by_cases h : i = j
    · subst h; simp
    · simp [h]
  rw [this]
/-! ### items, ranges, slices -/
theorem atI_nat' {α : Type} {xs : List α} {k : Nat} {x : α} (h : xs[k]? = some x) : atI xs (k : Int) = some x := atI_nat h
@[simp] theorem rangeD_len (lo hi : Int) : (rangeD lo hi).length = (hi - lo).toNat := by simp [rangeD]
theorem rangeD_nat (n : Nat) : rangeD 0 (n : Int) = (List.range n).map fun i : Nat => D.int (i : Int) := by simp [rangeD]
theorem rangeD_mem {lo hi : Int} {d : D} : d ∈ rangeD lo hi ↔ ∃ i : Int, lo ≤ i ∧ i < hi ∧ d = .int i := by
  unfold rangeD
  rw [List.mem_map]
  constructor
  · rintro ⟨k, hk, rfl⟩
    rw [List.mem_range] at hk
    exact ⟨_, by omega, by omega, rfl⟩
  · rintro ⟨i, h1, h2, rfl⟩
    exact ⟨(i - lo).toNat, by rw [List.mem_range]; omega, by congr 1; omega⟩
end Fx

set_option Elab.async false
set_option linter.all false
set_option maxRecDepth 100000
set_option maxHeartbeats 4000000
namespace Fx
open PySem L2
/-! ### permutations, as functions with their opposite -/
structure Pm (d : Nat) where
  f : Nat → Nat
  b : Nat → Nat
  fb : ∀ x, f (b x) = x
  bf : ∀ x, b (f x) = x
  out : ∀ x, d ≤ x → f x = x
namespace Pm
variable {d : Nat}
theorem ext {p q : Pm d} (h : ∀ x, p.f x = q.f x) : p = q := by
  obtain ⟨f, b, fb, bf, o⟩ := p
  obtain ⟨f', b', fb', bf', o'⟩ := q
  have e : f = f' := funext h
  subst e
  have e2 : b = b' := funext fun x => by rw [← fb' x, bf, fb']
  subst e2
  rfl
theorem inj (p : Pm d) {x y : Nat} (h : p.f x = p.f y) : x = y := by rw [← p.bf x, h, p.bf]
theorem lt (p : Pm d) {x : Nat} (h : x < d) : p.f x < d := by
  refine Nat.lt_of_not_le fun hx => ?_
  have := p.inj (p.out _ hx)
  omega
theorem bout (p : Pm d) {x : Nat} (h : d ≤ x) : p.b x = x := by
  have := p.bf x
  rw [p.out x h] at this; exact this
theorem blt (p : Pm d) {x : Nat} (h : x < d) : p.b x < d := by
  refine Nat.lt_of_not_le fun hx => ?_
  have := p.out _ hx
  rw [p.fb] at this
  omega
instance : Mul (Pm d) := ⟨fun p q => ⟨fun x => q.f (p.f x), fun x => p.b (q.b x), fun x => by rw [p.fb, q.fb], fun x => by rw [q.bf, p.bf], fun x h => by rw [p.out x h, q.out x h]⟩⟩
def inv (p : Pm d) : Pm d := ⟨p.b, p.f, p.bf, p.fb, fun x h => p.bout h⟩
def one : Pm d := ⟨id, id, fun _ => rfl, fun _ => rfl, fun _ _ => rfl⟩
@[simp] theorem mul_f (p q : Pm d) (x : Nat) : (p * q).f x = q.f (p.f x) := rfl
@[simp] theorem inv_f (p : Pm d) : p.inv.f = p.b := rfl
@[simp] theorem inv_b (p : Pm d) : p.inv.b = p.f := rfl
@[simp] theorem one_f (x : Nat) : (one : Pm d).f x = x := rfl
theorem assoc (p q r : Pm d) : p * q * r = p * (q * r) := ext fun _ => rfl
theorem one_mul (p : Pm d) : one * p = p := ext fun _ => rfl
theorem mul_one (p : Pm d) : p * one = p := ext fun _ => rfl
theorem inv_mul (p : Pm d) : p.inv * p = one := ext fun x => p.fb x
theorem mul_inv (p : Pm d) : p * p.inv = one := ext fun x => p.bf x
theorem inv_mul_l (p q : Pm d) : p.inv * (p * q) = q := by rw [← assoc, inv_mul, one_mul]
theorem mul_inv_l (p q : Pm d) : p * (p.inv * q) = q := by rw [← assoc, mul_inv, one_mul]
theorem inv_inv (p : Pm d) : p.inv.inv = p := rfl
theorem inv_of_mul (p q : Pm d) : (p * q).inv = q.inv * p.inv := rfl
/-- by its list -/
def list (p : Pm d) : List Nat := (List.range d).map p.f
theorem len (p : Pm d) : p.list.length = d := by simp [list]
theorem list_get (p : Pm d) {x : Nat} (h : x < d) : p.list[x]? = some (p.f x) := by simp [list, h]
theorem list_inj {p q : Pm d} (h : p.list = q.list) : p = q := ext fun x => by
  by_cases hx : x < d
  · have := p.list_get hx
    rw [h, q.list_get hx] at this
    exact (Option.some.inj this).symm
  · rw [p.out x (by omega), q.out x (by omega)]
theorem mem_perm {l : List Nat} {x : Nat} (h : l.Perm (List.range d)) : x ∈ l ↔ x < d := by rw [h.mem_iff, List.mem_range]
def ofList (l : List Nat) (h : l.Perm (List.range d)) : Pm d where
  f := fun x => l.getD x x
  b := fun x => if x ∈ l then l.idxOf x else x
  fb := fun x => by
    have hl : l.length = d := by rw [h.length_eq, List.length_range]
    by_cases hx : x ∈ l
    · rw [if_pos hx, List.getD_eq_getElem?_getD, List.getElem?_eq_getElem (List.idxOf_lt_length_of_mem hx)]
      simp
    · rw [if_neg hx, List.getD_eq_getElem?_getD, List.getElem?_eq_none (by rw [hl]; exact Nat.le_of_not_lt fun z => hx ((mem_perm h).mpr z))]
      rfl
  bf := fun x => by
    have hl : l.length = d := by rw [h.length_eq, List.length_range]
    have nd : l.Nodup := h.nodup_iff.mpr List.nodup_range
    by_cases hx : x < l.length
    · rw [List.getD_eq_getElem?_getD, List.getElem?_eq_getElem hx, Option.getD_some, if_pos (List.getElem_mem hx)]
      exact List.Nodup.idxOf_getElem nd x hx
    · rw [List.getD_eq_getElem?_getD, List.getElem?_eq_none (by omega), Option.getD_none, if_neg]
      intro z
      have := (mem_perm h).mp z
      omega
  out := fun x hx => by
    have hl : l.length = d := by rw [h.length_eq, List.length_range]
    rw [List.getD_eq_getElem?_getD, List.getElem?_eq_none (by omega)]
    rfl
theorem ofList_list {l : List Nat} (h : l.Perm (List.range d)) : (ofList l h).list = l := by
  have hl : l.length = d := by rw [h.length_eq, List.length_range]
  apply List.ext_getElem
  · rw [len, hl]
  · intro n h1 h2
    simp [list, ofList, List.getElem?_eq_getElem h2]
end Pm
abbrev nD (n : Nat) : D := .int (n : Int)
def lD (l : List Nat) : D := .tup (l.map nD)
def tp {d : Nat} (p : Pm d) : D := lD p.list
def rD {d : Nat} (row : List (Pm d)) : D := .tup (row.map tp)
theorem lD_one {d : Nat} : tp (Pm.one : Pm d) = .tup (rangeD 0 (d : Int)) := by
  rw [rangeD_nat]; simp [tp, lD, Pm.list, Pm.one]
theorem fl_lD {l : List Nat} : Fl 1 (lD l) := Fl.tup fun x hx => by
  obtain ⟨n, _, rfl⟩ := List.mem_map.mp hx; exact .int
theorem fl_tp {d : Nat} (p : Pm d) : Fl 1 (tp p) := fl_lD
theorem fl_rD {d : Nat} (r : List (Pm d)) : Fl 2 (rD r) := Fl.tup fun x hx => by
  obtain ⟨n, _, rfl⟩ := List.mem_map.mp hx; exact fl_tp n
@[simp] theorem lf_lD {l : List Nat} : lf (lD l) = true := by simp [lD, List.all_map]
@[simp] theorem lf_tp {d : Nat} (p : Pm d) : lf (tp p) = true := lf_lD
@[simp] theorem lf_rD {d : Nat} (r : List (Pm d)) : lf (rD r) = true := by simp [rD, List.all_map]
theorem atI_map {α β : Type} {f : α → β} {l : List α} {k : Nat} {x : α} (h : l[k]? = some x) : atI (l.map f) (k : Int) = some (f x) := atI_nat (by rw [List.getElem?_map, h]; rfl)
@[simp] theorem cut_lo {xs : List D} {a : Nat} (h : a ≤ xs.length) : cutD xs (some (a : Int)) none = xs.drop a := by
  unfold cutD
  rw [HT.sIx_nat, HT.sIx_none, Nat.min_eq_left h, List.take_of_length_le (by rw [List.length_drop]; omega)]
@[simp] theorem cut_hi {xs : List D} {a : Nat} (h : a ≤ xs.length) : cutD xs none (some (a : Int)) = xs.take a := by
  unfold cutD
  rw [HT.sIx_nat, HT.sIx_none, Nat.min_eq_left h, List.drop_zero, Nat.sub_zero]
theorem cut_both {xs : List D} {a b : Nat} (h : a ≤ b) (h2 : b ≤ xs.length) : cutD xs (some (a : Int)) (some (b : Int)) = (xs.drop a).take (b - a) := by
  unfold cutD
  rw [HT.sIx_nat, HT.sIx_nat, Nat.min_eq_left h2, Nat.min_eq_left (by omega)]
theorem x_setLoc {st : Store} {n : Nat} {xs : List D} {k : Nat} {d : D} (h : st[n]? = some (.lst xs)) (hk : k < xs.length) : fSetL (.loc n) (.int (k : Int)) d st = some (st.set n (.lst (xs.set k d))) := by
  simp only [fSetL, h]
  have : ixN xs.length (k : Int) = some k := by unfold ixN; rw [if_pos (by omega), if_pos (by omega)]; simp
  rw [this]
theorem x_app {st : Store} {n : Nat} {xs : List D} {d : D} (h : st[n]? = some (.lst xs)) (hl : xs.length < sizeLine) : fApp (.loc n) [d] st = .ok .non (st.set n (.lst (xs ++ [d]))) := by
  simp only [fApp, onLoc, h]
  rw [if_pos (szFits_lt.mpr hl)]
theorem x_popAt {st : Store} {n : Nat} {xs : List D} {k : Nat} {d : D} (h : st[n]? = some (.lst xs)) (hk : xs[k]? = some d) (hs : k < 1000000) : fPopAt (.loc n) [.int (k : Int)] st = .ok d (st.set n (.lst (xs.eraseIdx k))) := by
  have hl : k < xs.length := (List.getElem?_eq_some_iff.mp hk).1
  have : ixN xs.length (k : Int) = some k := by unfold ixN; rw [if_pos (by omega), if_pos (by omega)]; simp
  simp only [fPopAt, onLoc, h]
  rw [if_pos (w63_of (by omega) (by omega)), this]
  simp only [hk, Option.map_some]
theorem small {n : Nat} (h : n ≤ 1000) : n ≤ sizeLine := Nat.le_of_lt (small1000 h)
/-! ### a dict of ints, each with True -/
def kvI (seen : List Int) : List (Key × D) := seen.map fun y => (.inl y, .bl true)
theorem valD_kvI {seen : List Int} {y : Int} : (valD (kvI seen) (.inl y)).isSome = decide (y ∈ seen) := by
  unfold valD kvI
  induction seen with
  | nil => simp
  | cons a r ih =>
    by_cases h : a = y
    · subst h; simp
    · have h' : ¬ y = a := fun z => h z.symm
      simp [h, h'] at ih ⊢
      exact ih
theorem any_kvI {seen : List Int} {y : Int} (h : y ∉ seen) : ((kvI seen).any fun kv => decide (kv.1 = Sum.inl y)) = false := by
  unfold kvI
  rw [List.any_map, List.any_eq_false]
  intro a ha
  simp only [Function.comp, decide_eq_true_eq, Sum.inl.injEq]
  intro z; subst z; exact h ha
theorem putD_kvI {seen : List Int} {y : Int} (h : y ∉ seen) : putD (kvI seen) (.inl y) (.bl true) = kvI (seen ++ [y]) := by
  unfold putD
  rw [if_neg (by rw [any_kvI h]; simp)]
  simp [kvI]
theorem fDIn_dk {st : Store} {n : Nat} {seen : List Int} {y : Int} (h : st[n]? = some (.dk (kvI seen))) : fDIn true (.int y) (.loc n) st = .ok (.bl (decide (y ∈ seen))) st := by
  have e := valD_kvI (seen := seen) (y := y)
  unfold fDIn dGet
  simp only [h, Fx.keyOf]
  cases q : valD (kvI seen) (Sum.inl y) with
  | none => rw [q] at e; simp at e; simp [e]
  | some v => rw [q] at e; simp at e; simp [e]
theorem fSetD_dk {st : Store} {n : Nat} {seen : List Int} {y : Int} (h : st[n]? = some (.dk (kvI seen))) (hy : y ∉ seen) (hl : seen.length < sizeLine) : fSetD (.loc n) (.int y) (.bl true) st = some (st.set n (.dk (kvI (seen ++ [y])))) := by
  unfold fSetD
  simp only [h, Fx.keyOf]
  rw [if_pos (szFits_lt.mpr (by simpa [kvI] using hl)), putD_kvI hy]
/-! ### which values are permutations -/
/-- no def, no type, no object of the store -/
def pl : D → Bool
  | .fn _ => false
  | .ty _ => false
  | .loc _ => false
  | _ => true
def isI : D → Bool
  | .int _ => true
  | _ => false
def permL (n : Nat) : List Int → List D → Bool
  | _, [] => true
  | seen, .int y :: r => if y < 0 ∨ (n : Int) ≤ y ∨ y ∈ seen then false else permL n (seen ++ [y]) r
  | _, _ :: _ => false
def isP : D → Bool
  | .tup xs => permL xs.length [] xs
  | _ => false
theorem permL_range {d : Nat} (p : Pm d) : ∀ (k j : Nat), j + k = d → permL d ((List.range j).map fun i => ((p.f i : Nat) : Int)) ((List.range' j k).map fun i => nD (p.f i)) = true
  | 0, j, _ => by simp [permL]
  | k + 1, j, h => by
    rw [List.range'_succ, List.map_cons, permL, if_neg]
    · have := permL_range p k (j + 1) (by omega)
      rw [List.range_succ, List.map_append, List.map_cons, List.map_nil] at this
      exact this
    · have hj : p.f j < d := p.lt (by omega)
      intro z
      rcases z with z | z | z
      · omega
      · omega
      · obtain ⟨i, hi, e⟩ := List.mem_map.mp z
        rw [List.mem_range] at hi
        have : p.f i = p.f j := by omega
        have := p.inj this
        omega
theorem isP_tp {d : Nat} (p : Pm d) : isP (tp p) = true := by
  have h := permL_range p d 0 (by omega)
  simp only [isP, tp, lD]
  rw [List.length_map, p.len]
  have e : (List.range' 0 d) = List.range d := List.range_eq_range'.symm
  rw [e] at h
  simp only [Pm.list, List.map_map]; exact h
end Fx

set_option Elab.async false
set_option linter.all false
set_option maxRecDepth 100000
set_option maxHeartbeats 4000000
namespace HT
open PySem PySem.Spec PyProof.Rows
section
variable {prog : Program} {w : World} {A : Around} {E : Value → Shared → Prop} {s : Shared}
theorem fx_adjust_rev (n : Nat) : Builtin.Slice.sliceAdjust none none (-1) (n : Int) = ((n : Int) - 1, -1) := by
  unfold Builtin.Slice.sliceAdjust
  have h1 : ((-1 : Int) < 0) := by omega
  simp only [h1, if_true]
theorem fx_places_rev (n : Nat) : Builtin.Slice.slicePlaces ((n : Int) - 1) (-1) (-1) = n := by
  unfold Builtin.Slice.slicePlaces
  have h1 : ¬ ((-1 : Int) > 0) := by omega
  simp only [h1, if_false]
  rw [show (-(-1 : Int)) = 1 by omega, Int.ediv_one]
  split <;> omega
theorem fx_applied_rev {sl : Addr} {vl vu vs : Value} {n : Nat} {Q : Int × Int × Nat → Shared → Prop} (hs : s.heap.IsSliceOf sl vl vu vs) (pl : IsPart vl none) (pu : IsPart vu none) (ps : IsPart vs (some (-1)))
    (h : Q ((n : Int) - 1, -1, n) s) : wpAny (model prog w) A (Builtin.Slice.sliceApplied (.ref sl) (pure (n : Int))) Q E s := by
  obtain ⟨os, hos, hcs, hds⟩ := id hs
  unfold Builtin.Slice.sliceApplied Builtin.Slice.sliceFields
  refine wpAny_bind (wpAny_bind (wpAny_field hos hds (x := vl) rfl (wpAny_bind (wpAny_field hos hds (x := vu) rfl (wpAny_bind (wpAny_field hos hds (x := vs) rfl (wpAny_pure ?_)))))))
  refine wpAny_bind (slicePart_ ps ?_)
  show wpAny _ _ (if ((-1 : Int) == 0) = true then _ else _) _ _ s
  rw [if_neg (by decide)]
  refine wpAny_bind (slicePart_ pl (wpAny_bind (slicePart_ pu (wpAny_bind (wpAny_pure ?_)))))
  show wpAny _ _ (match Builtin.Slice.sliceAdjust none none (-1) (n : Int) with | (lo, hi) => pure (lo, (-1 : Int), Builtin.Slice.slicePlaces lo hi (-1))) _ _ s
  rw [fx_adjust_rev n]
  show wpAny _ _ (pure ((n : Int) - 1, (-1 : Int), Builtin.Slice.slicePlaces ((n : Int) - 1) (-1) (-1))) _ _ s
  rw [fx_places_rev]
  exact wpAny_pure h
theorem fx_fm {α β : Type} {f g : α → Option β} : ∀ {l : List α}, (∀ a ∈ l, f a = g a) → l.filterMap f = l.filterMap g
  | [], _ => rfl
  | a :: l, h => by rw [List.filterMap_cons, List.filterMap_cons, h a List.mem_cons_self, fx_fm fun b hb => h b (List.mem_cons_of_mem _ hb)]
theorem fx_pick_rev (xs : Array Value) : ((List.range xs.size).filterMap fun (m : Nat) => xs[(((xs.size : Int) - 1) + (m : Int) * (-1)).toNat]?).toArray = xs.toList.reverse.toArray := by
  congr 1
  have e : ∀ (l : List Value), ((List.range l.length).filterMap fun (m : Nat) => l[(((l.length : Int) - 1) + (m : Int) * (-1)).toNat]?) = l.reverse := by
    intro l
    have e1 : ((List.range l.length).filterMap fun (m : Nat) => l[(((l.length : Int) - 1) + (m : Int) * (-1)).toNat]?) = (List.range l.length).filterMap fun (m : Nat) => l.reverse[m]? := by
      apply fx_fm
      intro m hm
      rw [List.mem_range] at hm
      rw [List.getElem?_reverse hm]
      congr 1
      omega
    rw [e1]
    have e2 : ∀ r : List Value, ((List.range r.length).filterMap fun (m : Nat) => r[m]?) = r := by
      intro r
      induction r with
      | nil => rfl
      | cons a r ih =>
        rw [List.length_cons, List.range_succ_eq_map, List.filterMap_cons]
        simp only [List.getElem?_cons_zero, List.filterMap_map]
        congr 1
    have := e2 l.reverse
    rw [List.length_reverse] at this
    exact this
  have := e xs.toList
  rw [Array.length_toList] at this
  rw [← this]
  apply fx_fm
  intro m _
  rw [Array.getElem?_toList]
theorem fx_getItem_tuple_rev {t sl : Addr} {items : Array Value} {vl vu vs : Value} {Q : Value → Shared → Prop} (ht : IsTup s.heap t items) (hs : s.heap.IsSliceOf sl vl vu vs) (pl : IsPart vl none) (pu : IsPart vu none) (ps : IsPart vs (some (-1)))
    (h : Q (.ref s.heap.objs.size) { s with heap := s.heap.push { cls := .type "tuple", data := .seq items.toList.reverse.toArray } })
    (hsz : items.size ≤ sizeLine) : wpAny (model prog w) A (getItem (.ref t) (.ref sl)) Q E s := by
  have htake : sizeOk (.seq items.toList.reverse.toArray) := by
    show items.toList.reverse.toArray.size ≤ sizeLine
    rw [List.size_toArray, List.length_reverse, Array.length_toList]
    exact hsz
  obtain ⟨os, hos, hcs, hds⟩ := id hs
  have hTs : s.TypeIs (.ref sl) "slice" := ⟨os, hos, hcs⟩
  unfold getItem
  try with_reducible refine wpAny_holding ?_
  first | refine wpAny_bind (wpAny_pure ?_) | skip
  refine wpAny_bind (wpAny_sequenceKey ht.typeIs (by decide) ?_)
  refine wpAny_bind (wpAny_callSpecial?_slot (name := Str.ofString "__getitem__") ht.typeIs PyProof.Rows.slot_tuple_getitem
    (wpAny_call_entry PyProof.Rows.slot_tuple_getitem ht.typeIs entry_tuple_getitem ?_ (args_tuple_getitem _ _)))
  show wpAny _ _ (Builtin.Tuple.tupleItemsOf (.ref t) >>= _) _ _ s
  refine wpAny_bind (tupleItemsOf_ ht ?_)
  refine wpAny_bind (wpAny_typeOf hTs ?_)
  rw [if_pos (by decide)]
  refine wpAny_bind (fx_applied_rev hs pl pu ps ?_)
  have hno : ¬ ((((items.size : Int) - 1) == 0 && (-1 : Int) == 1 && items.size == items.size) = true) := by
    intro q
    rw [Bool.and_eq_true, Bool.and_eq_true] at q
    exact absurd q.1.2 (by decide)
  show wpAny _ _ (if (((items.size : Int) - 1) == 0 && (-1 : Int) == 1 && items.size == items.size) = true then _ else _) _ _ s
  rw [if_neg hno, fx_pick_rev]
  first
    | exact wpAny_bind (m := Builtin.Tuple.tupleExact _) (wpAny_newObj_type (wpAny_pure ⟨_, rfl, wpAny_pure h⟩) htake)
    | exact wpAny_bind (m := Builtin.Tuple.tupleExact _) (wpAny_newObj_type (wpAny_bind (wpAny_pure (wpAny_pure ⟨_, rfl, wpAny_pure h⟩))) htake)
    | exact wpAny_bind (wpAny_bind (m := Builtin.Tuple.tupleExact _) (wpAny_newObj_type (wpAny_pure (wpAny_pure ⟨_, rfl, wpAny_pure h⟩)) htake))
    | exact wpAny_bind (wpAny_bind (m := Builtin.Tuple.tupleExact _) (wpAny_newObj_type (wpAny_pure ⟨_, rfl, wpAny_pure h⟩) htake))
end
end HT
namespace L2
open PySem PySem.Spec PyProof.Rows
/-- t[::-1] of a tuple -/
def tFxRevT (K : PySem.W.Frag) (te : TE) : TE := fun σ H Q => te σ H fun x H1 => ∃ a xs, x = .ref a ∧ SqT K H1 a xs ∧ ∀ p, H1 p = none → Q (.ref p) (upd H1 p (.tup xs.reverse))
theorem pe_fxRevT {X : Cx} {e : Expr} {te : TE} {k : Nat} {p1 p2 p3 pos : Pos} (he : PE X e te) : PE X (.Subscript e (.Slice none none (some (.UnaryOp .USub (.Constant (.int 1) k p1) p2)) p3) pos) (tFxRevT X.K te) := by
  refine ⟨fun pins s σ H Q I h => ?_⟩
  refine Subscript_ (thn (he.run pins s σ H _ I h) fun v s1 ⟨x, H1, I1, r1, q1⟩ => ?_)
  obtain ⟨a, xs, ex, hx, q⟩ := q1
  subst ex
  cases r1
  have hst : PO X (some (.UnaryOp .USub (.Constant (.int 1) k p1) p2)) (tPart (tUn (rU fun i => .int (-i)) (tC (.int 1)))) := po_some (pe_un un_neg pe_int)
  refine wpAny_Slice (thn (po_none.run pins s1 σ H1 (fun o H2 => o = none ∧ H2 = H1) I1 ⟨rfl, rfl⟩) fun vl s2 ⟨l, H2, I2, pl, el, e2⟩ => ?_)
  subst el e2
  refine thn (po_none.run pins s2 σ H2 (fun o H3 => o = none ∧ H3 = H2) I2 ⟨rfl, rfl⟩) fun vu s3 ⟨u, H3, I3, pu, eu, e3⟩ => ?_
  subst eu e3
  refine thn (hst.run pins s3 σ H3 (fun o H4 => o = some (-1) ∧ H4 = H3) I3 ⟨1, rfl, -1, rfl, rfl, rfl⟩) fun vs s4 ⟨o, H4, I4, ps, eo, e4⟩ => ?_
  subst eo e4
  have I5 : Inv X pins σ H4 { s4 with heap := s4.heap.push { cls := .type "slice", data := .fields #[vl, vu, vs] } } := I4.kept (t' := s4.toks) fun b ob q => Heap.get?_push_of_some _ q
  obtain ⟨its, r, ht, hz⟩ := I5.tuple hx
  have hlen := r.length
  show wpAny (model X.prog X.w) X.A (subscriptTail e (.Slice none none (some (.UnaryOp .USub (.Constant (.int 1) k p1) p2)) p3) (.ref a) (.ref s4.heap.objs.size)) (EP X pins σ Q) X.xe { s4 with heap := s4.heap.push { cls := .type "slice", data := .fields #[vl, vu, vs] } }
  refine tail_any (ops := [.ref a, .ref s4.heap.objs.size]) ht.typeIs (PyProof.Rows.slot_tuple_getitem.lookup) ?_ (by with_unfolding_all rfl)
  refine HT.fx_getItem_tuple_rev ht (Heap.IsSliceOf.new _ vl vu vs) pl pu ps ?_ (by rw [List.size_toArray]; omega)
  refine ⟨.ref _, _, I5.laid (t' := s4.toks) (o := .tup xs.reverse) (fun b ob q => Heap.get?_push_of_some _ q) (Nat.le_refl _) ?_, rfl, q _ (I5.hok.fresh (Nat.le_refl _))⟩
  exact ⟨by rw [List.length_reverse]; exact hz, _, r.reverse, IsTup.new _ _⟩
end L2
namespace Fx
open PySem L2 PyProof.Rows
section
variable {X : Cx} {W : WX} {a b : Expr} {ma mb : SE} {pos : Pos}
def mRevT (m : SE) : SE := fun τ st => (m τ st).bind fun d st1 => match d with
  | .tup xs => .ok (.tup xs.reverse) st1
  | _ => .no
theorem ev_revT {k : Nat} {p1 p2 p3 : Pos} (ha : EvE X W a ma) : EvE X W (.Subscript a (.Slice none none (some (.UnaryOp .USub (.Constant (.int 1) k p1) p2)) p3) pos) (mRevT ma) :=
  PE.imp (pe_fxRevT ha) fun σ H Q ⟨ρ, τ, st, r0, en, o⟩ => tM.bind r0 en o fun d st1 ρ1 H1 v e1 r1 en1 q o1 => by
    cases d with
    | tup xs =>
      simp only [RelD] at q
      obtain ⟨p, us, rfl, hs, ru⟩ := q
      refine ⟨p, us, rfl, SqT.of hs, fun y hy => o1.free r1 hy ?_⟩
      simp only [reD, RelD]
      exact ⟨y, _, rfl, upd_same, (RelDs.mono (r1.push_ext hy) r1 _ ru).reverse⟩
    | _ => exact o1.elim
@[simp] theorem x_mRevT {m : SE} {σ : En} {st : Store} : mRevT m σ st = (m σ st).bind fun d st1 => match d with
  | .tup xs => .ok (.tup xs.reverse) st1
  | _ => .no := rfl
end
end Fx

set_option Elab.async false
set_option linter.all false
set_option maxRecDepth 100000
set_option maxHeartbeats 4000000
namespace Fx
open PySem L2 PyProof.Rows
section
variable {X : Cx} {W : WX} {a b : Expr} {ma mb : SE} {na nb : SA} {p pos : Pos}
/-! ### a slice of a list, as a list that this expression makes -/
def slL (d : D) (lo hi : Option Int) (st : Store) : Rs (List D) := match listOf d st with
  | some xs => .ok (cutD xs lo hi) st
  | none => .no
def mSlL (m : SE) (ml mh : SO) : SA := fun τ st => (m τ st).bind fun d st1 => (ml τ st1).bind fun lo st2 => (mh τ st2).bind fun hi st3 => slL d lo hi st3
theorem ef_sl {lo hi : Option Expr} {ml mh : SO} (ha : EvE X W a ma) (hl : EvO X W lo ml) (hh : EvO X W hi mh) : EvF X W (.Subscript a (.Slice lo hi none p) pos) (mSlL ma ml mh) :=
  PE.imp (pe_slice sl_list ha hl hh) fun σ H Q ⟨ρ, τ, st, r0, en, o⟩ => tM.bind r0 en o fun d st1 ρ1 H1 v e1 r1 en1 q o1 => tM.bind r1 en1 o1 fun l st2 ρ2 H2 l' e2 r2 en2 q2 o2 => tM.bind r2 en2 o2 fun h st3 ρ3 H3 h' e3 r3 en3 q3 o3 => by
    cases (show l = l' from q2)
    cases (show h = h' from q3)
    have q' := (q.mono e2 r1).mono e3 r2
    unfold slL at o3
    cases hx : Fx.listOf d st3 with
    | none => rw [hx] at o3; exact o3.elim
    | some xs =>
      rw [hx] at o3
      obtain ⟨p, us, rfl, hs, ru⟩ := listOf_rel r3 q' hx
      exact ⟨p, us, rfl, hs, fun y hy => o3.fresh r3 hy (ru.cut l h)⟩
/-! ### list + list -/
def strictL (d : D) (st : Store) : Option (List D) := match d with
  | .loc n => (match st[n]? with
    | some (.lst xs) => some xs
    | _ => none)
  | _ => none
theorem strictL_rel {K : PySem.W.Frag} {ρ : Mp} {st : Store} {H : Hp} {d : D} {v : V} {xs : List D} (r : R K ρ st H) (h : RelD K ρ st.length H d v) (e : strictL d st = some xs) : ∃ l us, v = .ref l ∧ H l = some (.lst us) ∧ RelDs K ρ st.length H xs us := by
  cases d with
  | loc n =>
    simp only [strictL] at e
    cases q : st[n]? with
    | none => rw [q] at e; cases e
    | some o =>
      rw [q] at e
      cases o with
      | lst ys =>
        cases e
        obtain ⟨_, hv, us, h1, h2⟩ := loc_rel r h q
        exact ⟨_, us, hv, h1, h2⟩
      | _ => cases e
  | _ => cases e
noncomputable def catR (xs : Option (List D)) (ds : Option (List D)) (st : Store) : Rs (List D) := match xs, ds with
  | some xs, some ds => if szFits (xs.length + ds.length) = true then .ok (xs ++ ds) st else .no
  | _, _ => .no
noncomputable def mCatLF (ma : SE) (nb : SA) : SA := fun τ st => (ma τ st).bind fun d st1 => (nb τ st1).bind fun ds st2 => catR (strictL d st2) (some ds) st2
noncomputable def mCatLL (ma mb : SE) : SA := fun τ st => (ma τ st).bind fun d st1 => (mb τ st1).bind fun d2 st2 => catR (strictL d st2) (strictL d2 st2) st2
noncomputable def mCatFF (na nb : SA) : SA := fun τ st => (na τ st).bind fun ds st1 => match nb τ st1 with
  | .ok ds2 st2 => catR (some ds) (some ds2) st2
  | _ => .no
noncomputable def mCatFL (na : SA) (mb : SE) : SA := fun τ st => (na τ st).bind fun ds st1 => match mb τ st1 with
  | .ok d2 st2 => catR (some ds) (strictL d2 st2) st2
  | _ => .no
theorem ef_catLF (ha : EvE X W a ma) (hb : EvF X W b nb) : EvF X W (.BinOp a .Add b pos) (mCatLF ma nb) :=
  PE.imp (pe_op op_cat ha hb) fun σ H Q ⟨ρ, τ, st, r0, en, o⟩ => tM.bind r0 en o fun d st1 ρ1 H1 vx e1 r1 en1 q o1 => tM.bind r1 en1 o1 fun ds st2 ρ2 H2 vy e2 r2 en2 q2 o2 => by
    obtain ⟨b', vs, rfl, h0, hb', rh, rv⟩ := q2
    cases hs : strictL d st2 with
    | none => simp only [hs, catR] at o2; exact o2.elim
    | some xs =>
      simp only [hs, catR] at o2
      split at o2
      · rename_i hz
        obtain ⟨l, us, e, hl, ru⟩ := strictL_rel r2 (q.mono e2 r1) hs
        exact ⟨l, b', us, vs, e, rfl, hl, hb', by rw [ru.len, rv.len]; exact szFits_iff.mp hz, fun p hp => o2.fresh r2 hp (ru.append (RelDs.show' _ rv))⟩
      · exact o2.elim
theorem ef_catLL (ha : EvE X W a ma) (hb : EvE X W b mb) : EvF X W (.BinOp a .Add b pos) (mCatLL ma mb) :=
  PE.imp (pe_op op_cat ha hb) fun σ H Q ⟨ρ, τ, st, r0, en, o⟩ => tM.bind r0 en o fun d st1 ρ1 H1 vx e1 r1 en1 q o1 => tM.bind r1 en1 o1 fun d2 st2 ρ2 H2 vy e2 r2 en2 q2 o2 => by
    cases hs : strictL d st2 with
    | none => simp only [hs, catR] at o2; exact o2.elim
    | some xs =>
      cases hs2 : strictL d2 st2 with
      | none => simp only [hs, hs2, catR] at o2; exact o2.elim
      | some ys =>
        simp only [hs, hs2, catR] at o2
        split at o2
        · rename_i hz
          obtain ⟨l, us, e, hl, ru⟩ := strictL_rel r2 (q.mono e2 r1) hs
          obtain ⟨l2, ws, ee, hl2, rw2⟩ := strictL_rel r2 q2 hs2
          exact ⟨l, l2, us, ws, e, ee, hl, hl2, by rw [ru.len, rw2.len]; exact szFits_iff.mp hz, fun p hp => o2.fresh r2 hp (ru.append rw2)⟩
        · exact o2.elim
/-- a list is held back while more is evaluated -/
theorem held {K : PySem.W.Frag} {ρ ρ1 : Mp} {st st1 : Store} {H H1 : Hp} {τ : En} {σ : L2.St} {a' : Addr} (r0 : R K ρ st H) (en : EnvR K ρ st.length H τ σ) (e1 : Ext ρ st.length H ρ1 st1.length H1) (h0 : H a' = none) : EnvR K (ρ1.hide a') st1.length H1 τ σ :=
  ⟨en.1, fun i d q => let ⟨v, h1, h2⟩ := en.2 i d q; ⟨v, h1, RelD.monoW (e1.hideW h0) r0 d h2⟩⟩
theorem ef_catFF (ha : EvF X W a na) (hb : EvF X W0 b nb) : EvF X W (.BinOp a .Add b pos) (mCatFF na nb) :=
  PE.imp (pe_op op_cat ha hb) fun σ H Q ⟨ρ, τ, st, r0, en, o⟩ => tM.bind r0 en o fun ds st1 ρ1 H1 vx e1 r1 en1 q o1 => by
    obtain ⟨a', us, rfl, h0, ha', rh, ru⟩ := q
    refine ⟨ρ1.hide a', τ, st1, rh, held r0 en e1 h0, ?_⟩
    cases q2 : nb τ st1 with
    | no => rw [q2] at o1; exact o1.elim
    | er x s => rw [q2] at o1; exact o1.elim
    | ok ds2 st2 =>
      rw [q2] at o1
      simp only [catR] at o1
      split at o1
      · rename_i hz
        rintro ρ' H' vy e' r' ⟨b', vs, rfl, h0', hb', rh', rv'⟩
        have u := unhide (ρ := ρ1) (p := a') e'.hid
        have hp' : H' a' = some (.lst us) := e'.keep a' _ ha' fun i hi z => rh.sep i hi (.inr z)
        have ru' := RelDs.mono e' rh ds ru
        refine ⟨a', b', us, vs, rfl, rfl, hp', hb', by rw [ru.len, rv'.len]; exact szFits_iff.mp hz, fun p hp => ?_⟩
        have ex : Ext ρ1 st1.length H1 ⟨ρ'.at', ρ1.hid⟩ st2.length H' := ⟨e'.le, e'.old, e'.new, e'.keep, rfl⟩
        have r'' : R X.K ⟨ρ'.at', ρ1.hid⟩ st2 H' := by rw [u] at r'; exact r'.show'
        have ru'' : RelDs X.K ⟨ρ'.at', ρ1.hid⟩ st2.length H' ds us := by rw [u] at ru'; exact RelDs.show' _ ru'
        have rv'' : RelDs X.K ⟨ρ'.at', ρ1.hid⟩ st2.length H' ds2 vs := by
          have z := RelDs.show' _ rv'
          rw [u] at z; exact RelDs.show' _ z
        exact (Out.shift o1 r1 ex r'').fresh r'' hp (ru''.append rv'')
      · exact o1.elim
theorem ef_catFL (ha : EvF X W a na) (hb : EvE X W0 b mb) : EvF X W (.BinOp a .Add b pos) (mCatFL na mb) :=
  PE.imp (pe_op op_cat ha hb) fun σ H Q ⟨ρ, τ, st, r0, en, o⟩ => tM.bind r0 en o fun ds st1 ρ1 H1 vx e1 r1 en1 q o1 => by
    obtain ⟨a', us, rfl, h0, ha', rh, ru⟩ := q
    refine ⟨ρ1.hide a', τ, st1, rh, held r0 en e1 h0, ?_⟩
    cases q2 : mb τ st1 with
    | no => rw [q2] at o1; exact o1.elim
    | er x s => rw [q2] at o1; exact o1.elim
    | ok d2 st2 =>
      rw [q2] at o1
      cases hs2 : strictL d2 st2 with
      | none => simp only [hs2, catR] at o1; exact o1.elim
      | some ys =>
        simp only [hs2, catR] at o1
        split at o1
        · rename_i hz
          rintro ρ' H' vy e' r' rd
          have u := unhide (ρ := ρ1) (p := a') e'.hid
          have hp' : H' a' = some (.lst us) := e'.keep a' _ ha' fun i hi z => rh.sep i hi (.inr z)
          have ru' := RelDs.mono e' rh ds ru
          have ex : Ext ρ1 st1.length H1 ⟨ρ'.at', ρ1.hid⟩ st2.length H' := ⟨e'.le, e'.old, e'.new, e'.keep, rfl⟩
          have r'' : R X.K ⟨ρ'.at', ρ1.hid⟩ st2 H' := by rw [u] at r'; exact r'.show'
          have ru'' : RelDs X.K ⟨ρ'.at', ρ1.hid⟩ st2.length H' ds us := by rw [u] at ru'; exact RelDs.show' _ ru'
          have rd'' : RelD X.K ⟨ρ'.at', ρ1.hid⟩ st2.length H' d2 vy := by
            have z : RelD X.K ρ' st2.length H' d2 vy := rd
            rw [u] at z; exact RelD.show' _ z
          obtain ⟨l, ws, e, hl, rw2⟩ := strictL_rel r'' rd'' hs2
          refine ⟨a', l, us, ws, rfl, e, hp', hl, by rw [ru.len, rw2.len]; exact szFits_iff.mp hz, fun p hp => ?_⟩
          exact (Out.shift o1 r1 ex r'').fresh r'' hp (ru''.append rw2)
        · exact o1.elim
@[simp] theorem x_mSlL {m : SE} {ml mh : SO} {σ : En} {st : Store} : mSlL m ml mh σ st = (m σ st).bind fun d st1 => (ml σ st1).bind fun lo st2 => (mh σ st2).bind fun hi st3 => slL d lo hi st3 := rfl
@[simp] theorem x_slFL {xs : List D} {lo hi : Option Int} {st : Store} : slL (.lst xs) lo hi st = .ok (cutD xs lo hi) st := rfl
theorem x_slLoc {n : Nat} {xs : List D} {lo hi : Option Int} {st : Store} (h : st[n]? = some (.lst xs)) : slL (.loc n) lo hi st = .ok (cutD xs lo hi) st := by simp only [slL, Fx.listOf, h]
theorem x_strict {n : Nat} {xs : List D} {st : Store} (h : st[n]? = some (.lst xs)) : strictL (.loc n) st = some xs := by simp only [strictL, h]
@[simp] theorem x_catR {xs ds : List D} {st : Store} : catR (some xs) (some ds) st = if szFits (xs.length + ds.length) = true then .ok (xs ++ ds) st else .no := rfl
@[simp] theorem x_mCatLF {σ : En} {st : Store} : mCatLF ma nb σ st = (ma σ st).bind fun d st1 => (nb σ st1).bind fun ds st2 => catR (strictL d st2) (some ds) st2 := rfl
@[simp] theorem x_mCatLL {σ : En} {st : Store} : mCatLL ma mb σ st = (ma σ st).bind fun d st1 => (mb σ st1).bind fun d2 st2 => catR (strictL d st2) (strictL d2 st2) st2 := rfl
@[simp] theorem x_mCatFF {σ : En} {st : Store} : mCatFF na nb σ st = (na σ st).bind fun ds st1 => match nb σ st1 with
  | .ok ds2 st2 => catR (some ds) (some ds2) st2
  | _ => .no := rfl
@[simp] theorem x_mCatFL {σ : En} {st : Store} : mCatFL na mb σ st = (na σ st).bind fun ds st1 => match mb σ st1 with
  | .ok d2 st2 => catR (some ds) (strictL d2 st2) st2
  | _ => .no := rfl
end
end Fx

set_option Elab.async false
set_option linter.all false
set_option maxRecDepth 100000
set_option maxHeartbeats 4000000
namespace Fx
open PySem L2 PyProof.Rows
/-! ### augmented assignment to a name -/
def IOpS (X : Cx) (op : Operator) (f : D → D → Store → Rs D) : Prop :=
  ∃ t, PIp X op t ∧ ∀ (W : WX) (σ : L2.St) (ρ : Mp) (st : Store) (H : Hp) (x y : D) (vx vy : V) (Q : VK), R X.K ρ st H → RelD X.K ρ st.length H x vx → RelD X.K ρ st.length H y vy → Out X.K (reD X.K) W σ ρ st.length H Q (f x y st) → t vx vy H Q
def sAug (i : Nat) (f : D → D → Store → Rs D) (m : SE) : SS := fun τ st => match τ[i]? with
  | some (some x) => (m τ st).go τ fun y st1 => (f x y st1).go τ fun z st2 => .nx (τ.set i (some z)) st2
  | _ => .no
section
variable {X : Cx} {W : WX} {e : Expr} {m : SE} {pos : Pos}
theorem es_aug (i : Nat) {x : Str} {pos' : Pos} {op : Operator} {f : D → D → Store → Rs D} (hN : X.N.Nodup) (ho : IOpS X op f) (he : EvE X W e m) (hi : X.N[i]? = some x := by rfl) (hx : Loc X.env.scope x := by first | exact Or.inl rfl | exact Or.inr rfl)
    (hf : X.fn x = true ∨ X.env.scope.names.lookup x = some .local := by first | exact .inl rfl | exact .inr rfl | assumption) : EvS X W (.AugAssign (.Name x pos') op e pos) (sAug i f m) := by
  obtain ⟨t, h1, h2⟩ := ho
  refine PS.imp (ps_aug hN hi hx he h1 hf) fun D σ H ⟨ρ, τ, st, r0, en, o⟩ => ?_
  unfold sAug at o
  cases q : τ[i]? with
  | none => rw [q] at o; exact o.elim
  | some y =>
    rw [q] at o
    cases y with
    | none => exact o.elim
    | some d =>
      obtain ⟨v, hv, rv⟩ := en.2 i d q
      refine ⟨v, hv, tM.goS r0 en o fun y st1 ρ1 H1 vy e1 r1 en1 qy o1 => ?_⟩
      refine h2 W σ ρ1 st1 H1 d y v vy _ r1 (rv.mono e1 r0) qy (OutS.go (Ra := reD X.K) r1 en1 o1 fun z st2 ρ2 H2 vz e2 r2 en2 qz o2 => ?_)
      exact o2.next r2 (en2.set qz i)
theorem ios_add : IOpS X .Add (onII fun i j => .int (i + j)) := by
  refine ⟨_, ip_add, fun W σ ρ st H x y vx vy Q r rx ry o => ?_⟩
  cases x with
  | int i =>
    cases y with
    | int j => simp only [RelD] at rx ry; exact ⟨i, j, rx, ry, o.here r (by simp [reD, RelD])⟩
    | _ => exact o.elim
  | _ => exact o.elim
theorem ios_sub : IOpS X .Sub (onII fun i j => .int (i - j)) := by
  refine ⟨_, ip_sub, fun W σ ρ st H x y vx vy Q r rx ry o => ?_⟩
  cases x with
  | int i =>
    cases y with
    | int j => simp only [RelD] at rx ry; exact ⟨i, j, rx, ry, o.here r (by simp [reD, RelD])⟩
    | _ => exact o.elim
  | _ => exact o.elim
end
theorem x_sAug {i : Nat} {f : D → D → Store → Rs D} {m : SE} {τ : En} {st : Store} {x : D} (h : τ[i]? = some (some x)) : sAug i f m τ st = (m τ st).go τ fun y st1 => (f x y st1).go τ fun z st2 => .nx (τ.set i (some z)) st2 := by simp only [sAug, h]
end Fx

set_option Elab.async false
set_option linter.all false
set_option maxRecDepth 100000
set_option maxHeartbeats 4000000
namespace Fx
open PySem L2
variable {d : Nat}
abbrev stt (s t : Int) : O := .lst [.int s, .int t]
theorem ix0 {s t : Int} {r : Store} : fIx (.loc 0) (.int 0) (stt s t :: r) = .ok (.int s) (stt s t :: r) := by rw [x_ixLoc (xs := [.int s, .int t]) rfl]; rfl
theorem ix1 {s t : Int} {r : Store} : fIx (.loc 0) (.int 1) (stt s t :: r) = .ok (.int t) (stt s t :: r) := by rw [x_ixLoc (xs := [.int s, .int t]) rfl]; rfl
theorem set0 {s t v : Int} {r : Store} : fSetL (.loc 0) (.int 0) (.int v) (stt s t :: r) = some (stt v t :: r) := x_setLoc (st := stt s t :: r) (n := 0) (k := 0) rfl (by simp)
theorem set1 {s t v : Int} {r : Store} : fSetL (.loc 0) (.int 1) (.int v) (stt s t :: r) = some (stt s v :: r) := x_setLoc (st := stt s t :: r) (n := 0) (k := 1) rfl (by simp)
theorem mulFits_r {i j : Int} (h1 : -1000000000 < j) (h2 : j < 1000000000) : mulFits i j = true := mulFits_iff.mpr (.inr (.inl ⟨by omega, by omega⟩))
theorem divFits_of {i j : Int} (h1 : 0 < j) (h2 : j < 1000000000) : divFits i j = true := by
  refine divFits_iff.mpr ⟨h1, ?_⟩
  have : j.natAbs.log2 < 30 := (Nat.log2_lt (by omega)).mpr (by omega)
  omega
theorem comp_pq {p q : Pm d} {m : SE} {vs : List Nat} {τ : En} {st : Store} {g : SG} (hd : d ≤ 1000) (h : ∀ i, i < d → ∃ τ1, g (nD (p.f i)) (wipeE τ vs) = some τ1 ∧ m τ1 st = .ok (nD (q.f (p.f i))) st) : compS g mYes m vs (p.list.map nD) τ st [] = .ok ((p * q).list.map nD) st := by
  rw [compS_map (f := fun x => match x with | .int y => nD (q.f y.toNat) | _ => .non)]
  · simp [Pm.list, Function.comp_def]
  · intro x hx
    obtain ⟨n, hn, rfl⟩ := List.mem_map.mp hx
    obtain ⟨i, hi, rfl⟩ := List.mem_map.mp hn
    rw [List.mem_range] at hi
    obtain ⟨τ1, e1, e2⟩ := h i hi
    exact ⟨τ1, e1, rfl, by simpa using e2⟩
  · simpa [Pm.len] using small hd
theorem atI_tp (q : Pm d) {n : Nat} (h : n < d) : atI (q.list.map nD) (n : Int) = some (nD (q.f n)) := atI_map (q.list_get h)
def invF (p : Pm d) (j : Nat) : List D := (List.range d).map fun y => nD (if p.b y < j then p.b y else 0)
theorem invF_len (p : Pm d) (j : Nat) : (invF p j).length = d := by simp [invF]
theorem invF_zero (p : Pm d) : invF p 0 = List.replicate d (.int 0) := by
  refine List.ext_getElem (by simp [invF]) fun n h1 h2 => ?_
  simp [invF]
theorem invF_all (p : Pm d) : invF p d = p.inv.list.map nD := by
  refine List.ext_getElem (by simp [invF, Pm.len]) fun n h1 h2 => ?_
  have hn : n < d := by simpa [invF] using h1
  simp [invF, Pm.list, p.blt hn]
theorem invF_set (p : Pm d) {j : Nat} (hj : j < d) : (invF p j).set (p.f j) (nD j) = invF p (j + 1) := by
  refine List.ext_getElem (by simp [invF]) fun n h1 h2 => ?_
  have hn : n < d := by simpa [invF] using h2
  rw [List.getElem_set]
  by_cases e : p.f j = n
  · subst e
    simp [invF, p.bf]
  · rw [if_neg e]
    have hne : p.b n ≠ j := fun z => e (by rw [← z, p.fb])
    simp only [invF, List.getElem_map, List.getElem_range]
    by_cases c : p.b n < j
    · rw [if_pos c, if_pos (by omega)]
    · rw [if_neg c, if_neg (by omega)]
theorem inv_loop {g : SG} {b : SS} {F : Nat → D} {P : En → Prop} (p : Pm d) (st : Store) (step : ∀ i, i < d → ∀ τ, P τ → ∃ τ1, g (F i) τ = some τ1 ∧ ∃ τ2, P τ2 ∧ b τ1 (st ++ [.lst (invF p i)]) = .nx τ2 (st ++ [.lst ((invF p i).set (p.f i) (nD i))])) :
    ∀ (k j : Nat), j + k = d → ∀ τ, P τ → ∃ τ', P τ' ∧ forS g b ((List.range' j k).map F) τ (st ++ [.lst (invF p j)]) = .nx τ' (st ++ [.lst (invF p d)])
  | 0, j, h, τ, hP => ⟨τ, hP, by rw [show j = d by omega]; rfl⟩
  | k + 1, j, h, τ, hP => by
    obtain ⟨τ1, e1, τ2, hP2, e2⟩ := step j (by omega) τ hP
    obtain ⟨τ', hP', e3⟩ := inv_loop p st step k (j + 1) (by omega) τ2 hP2
    refine ⟨τ', hP', ?_⟩
    rw [List.range'_succ, List.map_cons, x_forS_cons, e1]
    dsimp only
    rw [e2, Rt.loop_nx, invF_set p (by omega)]
    exact e3
theorem set_last {st : Store} {xs : List D} {k : Nat} {v : D} (h : k < xs.length) : fSetL (.loc st.length) (.int (k : Int)) v (st ++ [.lst xs]) = some (st ++ [.lst (xs.set k v)]) := by
  rw [x_setLoc (xs := xs) (by simp) h]; simp
theorem enum_tp (p : Pm d) : enumD (p.list.map nD) = (List.range d).map fun i => D.tup [nD i, nD (p.f i)] := by
  refine List.ext_getElem? fun i => ?_
  rw [enumD_get]
  by_cases h : i < d
  · simp [p.list_get h, h]
  · rw [List.getElem?_eq_none (by simp [Pm.len]; omega), List.getElem?_eq_none (by simp; omega)]; rfl
theorem range_nD (n : Nat) : rangeD 0 (n : Int) = (List.range n).map nD := rangeD_nat n
theorem erase_perm {α : Type} : ∀ {l : List α} {k : Nat} {x : α}, l[k]? = some x → (x :: l.eraseIdx k).Perm l
  | [], k, x, h => by simp at h
  | a :: l, 0, x, h => by simp at h; subst h; simp
  | a :: l, k + 1, x, h => by
    simp only [List.getElem?_cons_succ] at h
    rw [List.eraseIdx_cons_succ]
    exact (List.Perm.swap a x _).trans ((erase_perm h).cons a)
theorem erase_map {α β : Type} {f : α → β} : ∀ {l : List α} {k : Nat}, (l.map f).eraseIdx k = (l.eraseIdx k).map f
  | [], k => by simp
  | a :: l, 0 => by simp
  | a :: l, k + 1 => by simp [erase_map]
def Pm.swap (a b : Nat) (ha : a < d) (hb : b < d) : Pm d where
  f := fun x => if x = a then b else if x = b then a else x
  b := fun x => if x = a then b else if x = b then a else x
  fb := fun x => by
    by_cases h1 : x = a
    · subst h1; by_cases h2 : b = x <;> simp [h2]
    · by_cases h2 : x = b
      · subst h2; simp [h1]
      · simp [h1, h2]
  bf := fun x => by
    by_cases h1 : x = a
    · subst h1; by_cases h2 : b = x <;> simp [h2]
    · by_cases h2 : x = b
      · subst h2; simp [h1]
      · simp [h1, h2]
  out := fun x h => by rw [if_neg (by omega), if_neg (by omega)]
@[simp] theorem x_onBlsC {α : Type} {f : List Bool → D} {g : α → Bool} {xs : List α} {st : Store} : onBls f [.lst (xs.map (D.bl ∘ g))] st = .ok (f (xs.map g)) st := by
  rw [← List.map_map]; exact x_onBls
@[simp] theorem x_onBlsF {α : Type} {f : List Bool → D} {g : α → Bool} {xs : List α} {st : Store} : onBls f [.lst (xs.map fun x => D.bl (g x))] st = .ok (f (xs.map g)) st := x_onBlsC
def lenD : D → Nat
  | .tup ys => ys.length
  | _ => 0
def okV (x : D) : Prop := pl x = true ∧ ∀ ys, x = .tup ys → (∀ y ∈ ys, pl y = true) ∧ ys.length ≤ 1000
theorem isP_tup {x : D} (h : isP x = true) : ∃ ys, x = .tup ys := by
  cases x <;> simp [isP] at h
  exact ⟨_, rfl⟩
theorem fLen_P {x : D} (h : isP x = true) {st : Store} : fLen [x] st = .ok (.int (lenD x : Int)) st := by
  obtain ⟨ys, rfl⟩ := isP_tup h; rfl
theorem okV_tp {p : Pm d} (hd : d ≤ 1000) : okV (tp p) := by
  refine ⟨rfl, fun ys e => ?_⟩
  have e2 : ys = p.list.map nD := by injection e with e; exact e.symm
  subst e2
  refine ⟨fun y hy => ?_, by rw [List.length_map, p.len]; omega⟩
  obtain ⟨n, _, rfl⟩ := List.mem_map.mp hy; rfl
def wD (is : List Int) : D := .tup (is.map D.int)
@[simp] theorem lf_wD {is : List Int} : lf (wD is) = true := by simp [wD, List.all_map]
def RM : D := .tup [.str "raised", .str "malformed"]
theorem fl_RM : Fl 1 RM := Fl.tup fun x hx => by
  simp only [List.mem_cons, List.not_mem_nil, or_false] at hx
  rcases hx with rfl | rfl
  · exact Fl.str (by decide +kernel)
  · exact Fl.str (by decide +kernel)
theorem ne_RM {st : Store} : fNe RM RM st = .ok (.bl false) st := fNe_self fl_RM
theorem compS_mapL {α : Type} {g : SG} {t : SB} {m : SE} {vs : List Nat} {τ : En} {h f : α → D} {st : Store} : ∀ (l : List α) (acc : List D), (∀ a ∈ l, ∃ τ1, g (h a) (wipeE τ vs) = some τ1 ∧ t τ1 st = .ok true st ∧ m τ1 st = .ok (f a) st) → acc.length + l.length ≤ sizeLine → compS g t m vs (l.map h) τ st acc = .ok (acc ++ l.map f) st
  | [], acc, _, _ => by simp [compS]
  | a :: l, acc, hh, hl => by
    obtain ⟨τ1, e1, e2, e3⟩ := hh a List.mem_cons_self
    have hl' : acc.length < sizeLine := by simp only [List.length_cons] at hl; omega
    rw [List.map_cons, compS, e1]
    dsimp only
    rw [e2]
    dsimp only
    rw [e3]
    dsimp only
    rw [if_pos hl', compS_mapL l _ (fun d hd => hh d (List.mem_cons_of_mem _ hd)) (by simp only [List.length_append, List.length_cons, List.length_nil] at hl ⊢; omega)]
    simp
def RT (r : Rt) : Prop := ∃ st', r = .rt (.bl true) st'
theorem RT_post {a b : SS} {τ : En} {st : Store} (Φ : En → Store → Prop) (h : ∃ τ1 st1, a τ st = .nx τ1 st1 ∧ Φ τ1 st1) (k : ∀ τ1 st1, Φ τ1 st1 → RT (b τ1 st1)) : RT (sSeq a b τ st) := by
  obtain ⟨τ1, st1, e, hΦ⟩ := h
  rw [x_sSeq, e, Rt.seq_nx]
  exact k _ _ hΦ
theorem okV_of {x : D} (h : pl x = true) (h2 : ∀ ys, x ≠ .tup ys) : okV x := ⟨h, fun ys e => absurd e (h2 ys)⟩
theorem okV_range {n : Nat} (h : n ≤ 1000) : okV (.tup (rangeD 0 (n : Int))) := by
  refine ⟨rfl, fun ys e => ?_⟩
  have e2 : ys = rangeD 0 (n : Int) := by injection e with e; exact e.symm
  subst e2
  refine ⟨fun y hy => ?_, by simpa using h⟩
  obtain ⟨i, _, _, rfl⟩ := rangeD_mem.mp hy; rfl
theorem isP_range (n : Nat) : isP (.tup (rangeD 0 (n : Int))) = true := by rw [← lD_one]; exact isP_tp _
theorem lenD_range (n : Nat) : lenD (.tup (rangeD 0 (n : Int))) = n := by simp [lenD]
theorem lenD_tp (p : Pm d) : lenD (tp p) = d := by simp [tp, lD, lenD, p.len]
theorem okV_row {row : List (Pm d)} (hd : d ≤ 1000) : ∀ x ∈ row.map tp, okV x := fun x hx => by
  obtain ⟨p, _, rfl⟩ := List.mem_map.mp hx; exact okV_tp hd
theorem rD_len {row : List (Pm d)} : rD row = .tup (row.map tp) := rfl
theorem ne_row {row : List (Pm d)} {st : Store} : fNe (rD row) (rD row) st = .ok (.bl false) st := fNe_self (fl_rD _)
def prod (row : List (Pm d)) : Pm d := row.foldl (· * ·) Pm.one
theorem foldl_mul (row : List (Pm d)) (c : Pm d) : row.foldl (· * ·) c = c * prod row := by
  unfold prod
  induction row generalizing c with
  | nil => rfl
  | cons p row ih => rw [List.foldl_cons, List.foldl_cons, ih, ih (Pm.one * p), Pm.one_mul, Pm.assoc]
theorem prod_cons (p : Pm d) (row : List (Pm d)) : prod (p :: row) = p * prod row := by
  rw [prod, List.foldl_cons, foldl_mul, Pm.one_mul]
theorem prod_snoc (p : Pm d) (row : List (Pm d)) : prod (row ++ [p]) = prod row * p := by
  rw [prod, List.foldl_append]; rfl
end Fx

set_option Elab.async false
set_option linter.all false
set_option maxRecDepth 100000
set_option maxHeartbeats 4000000
namespace K21
open PySem L2 Fx
def top (i : Nat) : Stmt := PySem.Challenge.pw_branchsheets_k21_whole_words.main.body.getD i (.Pass ⟨0, 0, 0, 0⟩)
abbrev s_law_state : Stmt := top 31
abbrev N_law_state : List Str := ["script", "seed", "total", "cell"]
theorem sc_law_state : FnScope N_law_state ["script"] (defScope s_law_state) := ⟨rfl, rfl, rfl, by decide +kernel, rfl, by decide +kernel, by decide +kernel⟩
abbrev s_law_take : Stmt := top 32
abbrev N_law_take : List Str := ["state", "m", "value"]
theorem sc_law_take : FnScope N_law_take ["state", "m"] (defScope s_law_take) := ⟨rfl, rfl, rfl, by decide +kernel, rfl, by decide +kernel, by decide +kernel⟩
abbrev s_law_inverse : Stmt := top 36
abbrev N_law_inverse : List Str := ["p", "found", "x"]
theorem sc_law_inverse : FnScope N_law_inverse ["p"] (defScope s_law_inverse) := ⟨rfl, rfl, rfl, by decide +kernel, rfl, by decide +kernel, by decide +kernel⟩
abbrev s_law_permutation : Stmt := top 37
abbrev N_law_permutation : List Str := ["state", "d", "left", "found"]
theorem sc_law_permutation : FnScope N_law_permutation ["state", "d"] (defScope s_law_permutation) := ⟨rfl, rfl, rfl, by decide +kernel, rfl, by decide +kernel, by decide +kernel⟩
abbrev s_law_system : Stmt := top 38
abbrev N_law_system : List Str := ["state", "d", "k", "perms", "turn", "pick", "a", "b", "x"]
theorem sc_law_system : FnScope N_law_system ["state", "d", "k"] (defScope s_law_system) := ⟨rfl, rfl, rfl, by decide +kernel, rfl, by decide +kernel, by decide +kernel⟩
abbrev s_law_says : Stmt := top 33
abbrev N_law_says : List Str := ["value", "due"]
theorem sc_law_says : FnScope N_law_says ["value", "due"] (defScope s_law_says) := ⟨rfl, rfl, rfl, by decide +kernel, rfl, by decide +kernel, by decide +kernel⟩
abbrev s_law_is_number : Stmt := top 34
abbrev N_law_is_number : List Str := ["value"]
theorem sc_law_is_number : FnScope N_law_is_number ["value"] (defScope s_law_is_number) := ⟨rfl, rfl, rfl, by decide +kernel, rfl, by decide +kernel, by decide +kernel⟩
abbrev s_law_is_word : Stmt := top 35
abbrev N_law_is_word : List Str := ["value", "k", "i"]
theorem sc_law_is_word : FnScope N_law_is_word ["value", "k"] (defScope s_law_is_word) := ⟨rfl, rfl, rfl, by decide +kernel, rfl, by decide +kernel, by decide +kernel⟩
abbrev s_law_inner : Stmt := top 29
abbrev N_law_inner : List Str := ["value", "item"]
theorem sc_law_inner : FnScope N_law_inner ["value"] (defScope s_law_inner) := ⟨rfl, rfl, rfl, by decide +kernel, rfl, by decide +kernel, by decide +kernel⟩
abbrev s_law_plain : Stmt := top 30
abbrev N_law_plain : List Str := ["value"]
theorem sc_law_plain : FnScope N_law_plain ["value"] (defScope s_law_plain) := ⟨rfl, rfl, rfl, by decide +kernel, rfl, by decide +kernel, by decide +kernel⟩
abbrev s_is_integer : Stmt := top 4
abbrev N_is_integer : List Str := ["value"]
theorem sc_is_integer : FnScope N_is_integer ["value"] (defScope s_is_integer) := ⟨rfl, rfl, rfl, by decide +kernel, rfl, by decide +kernel, by decide +kernel⟩
abbrev s_is_word : Stmt := top 18
abbrev N_is_word : List Str := ["value", "k", "letter"]
theorem sc_is_word : FnScope N_is_word ["value", "k"] (defScope s_is_word) := ⟨rfl, rfl, rfl, by decide +kernel, rfl, by decide +kernel, by decide +kernel⟩
abbrev s_check_word : Stmt := top 19
abbrev N_check_word : List Str := ["w", "k"]
theorem sc_check_word : FnScope N_check_word ["w", "k"] (defScope s_check_word) := ⟨rfl, rfl, rfl, by decide +kernel, rfl, by decide +kernel, by decide +kernel⟩
abbrev s_turned_word : Stmt := top 20
abbrev N_turned_word : List Str := ["w", "letter"]
theorem sc_turned_word : FnScope N_turned_word ["w"] (defScope s_turned_word) := ⟨rfl, rfl, rfl, by decide +kernel, rfl, by decide +kernel, by decide +kernel⟩
abbrev s_inverse_word : Stmt := top 21
abbrev N_inverse_word : List Str := ["w", "k"]
theorem sc_inverse_word : FnScope N_inverse_word ["w", "k"] (defScope s_inverse_word) := ⟨rfl, rfl, rfl, by decide +kernel, rfl, by decide +kernel, by decide +kernel⟩
abbrev s_reduced_word : Stmt := top 22
abbrev N_reduced_word : List Str := ["w", "k", "found", "letter"]
theorem sc_reduced_word : FnScope N_reduced_word ["w", "k"] (defScope s_reduced_word) := ⟨rfl, rfl, rfl, by decide +kernel, rfl, by decide +kernel, by decide +kernel⟩
abbrev s_is_permutation : Stmt := top 6
abbrev N_is_permutation : List Str := ["value", "seen", "y"]
theorem sc_is_permutation : FnScope N_is_permutation ["value"] (defScope s_is_permutation) := ⟨rfl, rfl, rfl, by decide +kernel, rfl, by decide +kernel, by decide +kernel⟩
abbrev s_is_system : Stmt := top 14
abbrev N_is_system : List Str := ["value", "d", "perms", "p"]
theorem sc_is_system : FnScope N_is_system ["value"] (defScope s_is_system) := ⟨rfl, rfl, rfl, by decide +kernel, rfl, by decide +kernel, by decide +kernel⟩
abbrev s_check_system : Stmt := top 15
abbrev N_check_system : List Str := ["S"]
theorem sc_check_system : FnScope N_check_system ["S"] (defScope s_check_system) := ⟨rfl, rfl, rfl, by decide +kernel, rfl, by decide +kernel, by decide +kernel⟩
abbrev s_is_sheet : Stmt := top 16
abbrev N_is_sheet : List Str := ["value", "S"]
theorem sc_is_sheet : FnScope N_is_sheet ["value", "S"] (defScope s_is_sheet) := ⟨rfl, rfl, rfl, by decide +kernel, rfl, by decide +kernel, by decide +kernel⟩
abbrev s_check_sheet : Stmt := top 17
abbrev N_check_sheet : List Str := ["x", "S"]
theorem sc_check_sheet : FnScope N_check_sheet ["x", "S"] (defScope s_check_sheet) := ⟨rfl, rfl, rfl, by decide +kernel, rfl, by decide +kernel, by decide +kernel⟩
abbrev s_led_along : Stmt := top 24
abbrev N_led_along : List Str := ["tables", "x", "w", "letter"]
theorem sc_led_along : FnScope N_led_along ["tables", "x", "w"] (defScope s_led_along) := ⟨rfl, rfl, rfl, by decide +kernel, rfl, by decide +kernel, by decide +kernel⟩
abbrev s_check_permutation : Stmt := top 7
abbrev N_check_permutation : List Str := ["p"]
theorem sc_check_permutation : FnScope N_check_permutation ["p"] (defScope s_check_permutation) := ⟨rfl, rfl, rfl, by decide +kernel, rfl, by decide +kernel, by decide +kernel⟩
abbrev s_undone : Stmt := top 8
abbrev N_undone : List Str := ["p", "found", "x", "y"]
theorem sc_undone : FnScope N_undone ["p"] (defScope s_undone) := ⟨rfl, rfl, rfl, by decide +kernel, rfl, by decide +kernel, by decide +kernel⟩
abbrev s_inverse_of : Stmt := top 9
abbrev N_inverse_of : List Str := ["p"]
theorem sc_inverse_of : FnScope N_inverse_of ["p"] (defScope s_inverse_of) := ⟨rfl, rfl, rfl, by decide +kernel, rfl, by decide +kernel, by decide +kernel⟩
abbrev s_letter_tables : Stmt := top 23
abbrev N_letter_tables : List Str := ["S", "found", "k", "p"]
theorem sc_letter_tables : FnScope N_letter_tables ["S"] (defScope s_letter_tables) := ⟨rfl, rfl, rfl, by decide +kernel, rfl, by decide +kernel, by decide +kernel⟩
abbrev s_walk_word : Stmt := top 25
abbrev N_walk_word : List Str := ["S", "x", "w"]
theorem sc_walk_word : FnScope N_walk_word ["S", "x", "w"] (defScope s_walk_word) := ⟨rfl, rfl, rfl, by decide +kernel, rfl, by decide +kernel, by decide +kernel⟩
abbrev s_word_permutation : Stmt := top 26
abbrev N_word_permutation : List Str := ["S", "w", "tables", "x"]
theorem sc_word_permutation : FnScope N_word_permutation ["S", "w"] (defScope s_word_permutation) := ⟨rfl, rfl, rfl, by decide +kernel, rfl, by decide +kernel, by decide +kernel⟩
abbrev s_told_system : Stmt := top 27
abbrev N_told_system : List Str := ["S", "words", "tables", "w", "x"]
theorem sc_told_system : FnScope N_told_system ["S", "words"] (defScope s_told_system) := ⟨rfl, rfl, rfl, by decide +kernel, rfl, by decide +kernel, by decide +kernel⟩
abbrev s_law_told : Stmt := top 44
abbrev N_law_told : List Str := ["which", "a", "b", "c"]
theorem sc_law_told : FnScope N_law_told ["which", "a", "b", "c"] (defScope s_law_told) := ⟨rfl, rfl, rfl, by decide +kernel, rfl, by decide +kernel, by decide +kernel⟩
abbrev s_law_bad_hold : Stmt := top 47
abbrev N_law_bad_hold : List Str := ["S", "w", "k", "bad", "value", "told", "size", "x", "which"]
theorem sc_law_bad_hold : FnScope N_law_bad_hold ["S", "w", "k"] (defScope s_law_bad_hold) := ⟨rfl, rfl, rfl, by decide +kernel, rfl, by decide +kernel, by decide +kernel⟩
abbrev s_law_letters : Stmt := top 39
abbrev N_law_letters : List Str := ["k", "found", "i"]
theorem sc_law_letters : FnScope N_law_letters ["k"] (defScope s_law_letters) := ⟨rfl, rfl, rfl, by decide +kernel, rfl, by decide +kernel, by decide +kernel⟩
abbrev s_law_word : Stmt := top 40
abbrev N_law_word : List Str := ["state", "k", "most", "letters", "turn"]
theorem sc_law_word : FnScope N_law_word ["state", "k", "most"] (defScope s_law_word) := ⟨rfl, rfl, rfl, by decide +kernel, rfl, by decide +kernel, by decide +kernel⟩
abbrev s_law_reduced : Stmt := top 45
abbrev N_law_reduced : List Str := ["w", "word", "at"]
theorem sc_law_reduced : FnScope N_law_reduced ["w"] (defScope s_law_reduced) := ⟨rfl, rfl, rfl, by decide +kernel, rfl, by decide +kernel, by decide +kernel⟩
abbrev s_law_whole_reduced : Stmt := top 46
abbrev N_law_whole_reduced : List Str := ["w"]
theorem sc_law_whole_reduced : FnScope N_law_whole_reduced ["w"] (defScope s_law_whole_reduced) := ⟨rfl, rfl, rfl, by decide +kernel, rfl, by decide +kernel, by decide +kernel⟩
abbrev s_law_step : Stmt := top 41
abbrev N_law_step : List Str := ["S", "x", "i", "p"]
theorem sc_law_step : FnScope N_law_step ["S", "x", "i"] (defScope s_law_step) := ⟨rfl, rfl, rfl, by decide +kernel, rfl, by decide +kernel, by decide +kernel⟩
abbrev s_law_walk : Stmt := top 42
abbrev N_law_walk : List Str := ["S", "x", "w", "i"]
theorem sc_law_walk : FnScope N_law_walk ["S", "x", "w"] (defScope s_law_walk) := ⟨rfl, rfl, rfl, by decide +kernel, rfl, by decide +kernel, by decide +kernel⟩
abbrev s_law_product : Stmt := top 43
abbrev N_law_product : List Str := ["p", "q", "y"]
theorem sc_law_product : FnScope N_law_product ["p", "q"] (defScope s_law_product) := ⟨rfl, rfl, rfl, by decide +kernel, rfl, by decide +kernel, by decide +kernel⟩
abbrev s_law : Stmt := top 48
abbrev N_law : List Str := ["script", "state", "d", "k", "S", "w", "v", "back", "due", "words", "perms", "long", "once", "bad", "i", "x", "turn", "one"]
theorem sc_law : FnScope N_law ["script"] (defScope s_law) := ⟨rfl, rfl, rfl, by decide +kernel, rfl, by decide +kernel, by decide +kernel⟩
/-- what stands in the module -/
structure Txt (K : PySem.W.Frag) (mg : Str → Option Value) (A : Nat → Addr) (fd : Nat → FuncData) : Prop where
  m_law_state : mg "_law_state" = some (.ref (A 31))
  F_law_state : Fun K "_law_state" "_law_state" s_law_state (A 31) (fd 31)
  m_law_take : mg "_law_take" = some (.ref (A 32))
  F_law_take : Fun K "_law_take" "_law_take" s_law_take (A 32) (fd 32)
  m_law_inverse : mg "_law_inverse" = some (.ref (A 36))
  F_law_inverse : Fun K "_law_inverse" "_law_inverse" s_law_inverse (A 36) (fd 36)
  m_law_permutation : mg "_law_permutation" = some (.ref (A 37))
  F_law_permutation : Fun K "_law_permutation" "_law_permutation" s_law_permutation (A 37) (fd 37)
  m_law_system : mg "_law_system" = some (.ref (A 38))
  F_law_system : Fun K "_law_system" "_law_system" s_law_system (A 38) (fd 38)
  m_law_says : mg "_law_says" = some (.ref (A 33))
  F_law_says : Fun K "_law_says" "_law_says" s_law_says (A 33) (fd 33)
  m_law_is_number : mg "_law_is_number" = some (.ref (A 34))
  F_law_is_number : Fun K "_law_is_number" "_law_is_number" s_law_is_number (A 34) (fd 34)
  m_law_is_word : mg "_law_is_word" = some (.ref (A 35))
  F_law_is_word : Fun K "_law_is_word" "_law_is_word" s_law_is_word (A 35) (fd 35)
  m_law_inner : mg "_law_inner" = some (.ref (A 29))
  F_law_inner : Fun K "_law_inner" "_law_inner" s_law_inner (A 29) (fd 29)
  m_law_plain : mg "_law_plain" = some (.ref (A 30))
  F_law_plain : Fun K "_law_plain" "_law_plain" s_law_plain (A 30) (fd 30)
  m_is_integer : mg "is_integer" = some (.ref (A 4))
  F_is_integer : Fun K "is_integer" "is_integer" s_is_integer (A 4) (fd 4)
  m_is_word : mg "is_word" = some (.ref (A 18))
  F_is_word : Fun K "is_word" "is_word" s_is_word (A 18) (fd 18)
  m_check_word : mg "check_word" = some (.ref (A 19))
  F_check_word : Fun K "check_word" "check_word" s_check_word (A 19) (fd 19)
  m_turned_word : mg "turned_word" = some (.ref (A 20))
  F_turned_word : Fun K "turned_word" "turned_word" s_turned_word (A 20) (fd 20)
  m_inverse_word : mg "inverse_word" = some (.ref (A 21))
  F_inverse_word : Fun K "inverse_word" "inverse_word" s_inverse_word (A 21) (fd 21)
  m_reduced_word : mg "reduced_word" = some (.ref (A 22))
  F_reduced_word : Fun K "reduced_word" "reduced_word" s_reduced_word (A 22) (fd 22)
  m_is_permutation : mg "is_permutation" = some (.ref (A 6))
  F_is_permutation : Fun K "is_permutation" "is_permutation" s_is_permutation (A 6) (fd 6)
  m_is_system : mg "is_system" = some (.ref (A 14))
  F_is_system : Fun K "is_system" "is_system" s_is_system (A 14) (fd 14)
  m_check_system : mg "check_system" = some (.ref (A 15))
  F_check_system : Fun K "check_system" "check_system" s_check_system (A 15) (fd 15)
  m_is_sheet : mg "is_sheet" = some (.ref (A 16))
  F_is_sheet : Fun K "is_sheet" "is_sheet" s_is_sheet (A 16) (fd 16)
  m_check_sheet : mg "check_sheet" = some (.ref (A 17))
  F_check_sheet : Fun K "check_sheet" "check_sheet" s_check_sheet (A 17) (fd 17)
  m_led_along : mg "led_along" = some (.ref (A 24))
  F_led_along : Fun K "led_along" "led_along" s_led_along (A 24) (fd 24)
  m_check_permutation : mg "check_permutation" = some (.ref (A 7))
  F_check_permutation : Fun K "check_permutation" "check_permutation" s_check_permutation (A 7) (fd 7)
  m_undone : mg "undone" = some (.ref (A 8))
  F_undone : Fun K "undone" "undone" s_undone (A 8) (fd 8)
  m_inverse_of : mg "inverse_of" = some (.ref (A 9))
  F_inverse_of : Fun K "inverse_of" "inverse_of" s_inverse_of (A 9) (fd 9)
  m_letter_tables : mg "letter_tables" = some (.ref (A 23))
  F_letter_tables : Fun K "letter_tables" "letter_tables" s_letter_tables (A 23) (fd 23)
  m_walk_word : mg "walk_word" = some (.ref (A 25))
  F_walk_word : Fun K "walk_word" "walk_word" s_walk_word (A 25) (fd 25)
  m_word_permutation : mg "word_permutation" = some (.ref (A 26))
  F_word_permutation : Fun K "word_permutation" "word_permutation" s_word_permutation (A 26) (fd 26)
  m_told_system : mg "told_system" = some (.ref (A 27))
  F_told_system : Fun K "told_system" "told_system" s_told_system (A 27) (fd 27)
  m_law_told : mg "_law_told" = some (.ref (A 44))
  F_law_told : Fun K "_law_told" "_law_told" s_law_told (A 44) (fd 44)
  m_law_bad_hold : mg "_law_bad_hold" = some (.ref (A 47))
  F_law_bad_hold : Fun K "_law_bad_hold" "_law_bad_hold" s_law_bad_hold (A 47) (fd 47)
  m_law_letters : mg "_law_letters" = some (.ref (A 39))
  F_law_letters : Fun K "_law_letters" "_law_letters" s_law_letters (A 39) (fd 39)
  m_law_word : mg "_law_word" = some (.ref (A 40))
  F_law_word : Fun K "_law_word" "_law_word" s_law_word (A 40) (fd 40)
  m_law_reduced : mg "_law_reduced" = some (.ref (A 45))
  F_law_reduced : Fun K "_law_reduced" "_law_reduced" s_law_reduced (A 45) (fd 45)
  m_law_whole_reduced : mg "_law_whole_reduced" = some (.ref (A 46))
  F_law_whole_reduced : Fun K "_law_whole_reduced" "_law_whole_reduced" s_law_whole_reduced (A 46) (fd 46)
  m_law_step : mg "_law_step" = some (.ref (A 41))
  F_law_step : Fun K "_law_step" "_law_step" s_law_step (A 41) (fd 41)
  m_law_walk : mg "_law_walk" = some (.ref (A 42))
  F_law_walk : Fun K "_law_walk" "_law_walk" s_law_walk (A 42) (fd 42)
  m_law_product : mg "_law_product" = some (.ref (A 43))
  F_law_product : Fun K "_law_product" "_law_product" s_law_product (A 43) (fd 43)
  m_law : mg "law" = some (.ref (A 48))
  F_law : Fun K "law" "law" s_law (A 48) (fd 48)
  z_abs : mg "abs" = none
  z_all : mg "all" = none
  z_bool : mg "bool" = none
  z_enumerate : mg "enumerate" = none
  z_int : mg "int" = none
  z_isinstance : mg "isinstance" = none
  z_len : mg "len" = none
  z_list : mg "list" = none
  z_range : mg "range" = none
  z_str : mg "str" = none
  z_tuple : mg "tuple" = none
  c_MOST_LETTERS : ∃ t, mg "MOST_LETTERS" = some (.int 2000 t)
  c_MOST_RANK : ∃ t, mg "MOST_RANK" = some (.int 12 t)
  c_MOST_SHEETS : ∃ t, mg "MOST_SHEETS" = some (.int 24 t)
  m_Malformed : mg "Malformed" = some (.ref (A 2))
  q_Malformed : PySem.W.excIn K (A 2) [.type "ValueError", .type "Exception", .type "BaseException", .type "object"] "ValueError.__new__" = true
  k_Malformed : PySem.W.keepIn K (.ref (A 2)) = true
  b_Malformed : PySem.W.subIn K (.ref (A 2)) (.type "BaseException") = some true
  t_Malformed : PySem.W.typeIn K (.ref (A 2)) = some (.type "type")
  ap : Apart K [A 2]
section
variable {P : Program} {w : World} {K : PySem.W.Frag} {mg : Str → Option Value} {base : Heap} {A : Nat → Addr} {fd : Nat → FuncData}
theorem b_law_state (T : Txt K mg A fd) : Binds K (fd 31) ["script"] [] := T.F_law_state.binds fun _ _ _ _ _ _ us hl => match us, hl with | [_], _ => rfl
theorem b_law_take (T : Txt K mg A fd) : Binds K (fd 32) ["state", "m"] [] := T.F_law_take.binds fun _ _ _ _ _ _ us hl => match us, hl with | [_, _], _ => rfl
theorem b_law_inverse (T : Txt K mg A fd) : Binds K (fd 36) ["p"] [] := T.F_law_inverse.binds fun _ _ _ _ _ _ us hl => match us, hl with | [_], _ => rfl
theorem b_law_permutation (T : Txt K mg A fd) : Binds K (fd 37) ["state", "d"] [] := T.F_law_permutation.binds fun _ _ _ _ _ _ us hl => match us, hl with | [_, _], _ => rfl
theorem b_law_system (T : Txt K mg A fd) : Binds K (fd 38) ["state", "d", "k"] [] := T.F_law_system.binds fun _ _ _ _ _ _ us hl => match us, hl with | [_, _, _], _ => rfl
theorem b_law_says (T : Txt K mg A fd) : Binds K (fd 33) ["value", "due"] [] := T.F_law_says.binds fun _ _ _ _ _ _ us hl => match us, hl with | [_, _], _ => rfl
theorem b_law_is_number (T : Txt K mg A fd) : Binds K (fd 34) ["value"] [] := T.F_law_is_number.binds fun _ _ _ _ _ _ us hl => match us, hl with | [_], _ => rfl
theorem b_law_is_word (T : Txt K mg A fd) : Binds K (fd 35) ["value", "k"] [] := T.F_law_is_word.binds fun _ _ _ _ _ _ us hl => match us, hl with | [_, _], _ => rfl
theorem b_law_inner (T : Txt K mg A fd) : Binds K (fd 29) ["value"] [] := T.F_law_inner.binds fun _ _ _ _ _ _ us hl => match us, hl with | [_], _ => rfl
theorem b_law_plain (T : Txt K mg A fd) : Binds K (fd 30) ["value"] [] := T.F_law_plain.binds fun _ _ _ _ _ _ us hl => match us, hl with | [_], _ => rfl
theorem b_is_integer (T : Txt K mg A fd) : Binds K (fd 4) ["value"] [] := T.F_is_integer.binds fun _ _ _ _ _ _ us hl => match us, hl with | [_], _ => rfl
theorem b_is_word (T : Txt K mg A fd) : Binds K (fd 18) ["value", "k"] [] := T.F_is_word.binds fun _ _ _ _ _ _ us hl => match us, hl with | [_, _], _ => rfl
theorem b_check_word (T : Txt K mg A fd) : Binds K (fd 19) ["w", "k"] [] := T.F_check_word.binds fun _ _ _ _ _ _ us hl => match us, hl with | [_, _], _ => rfl
theorem b_turned_word (T : Txt K mg A fd) : Binds K (fd 20) ["w"] [] := T.F_turned_word.binds fun _ _ _ _ _ _ us hl => match us, hl with | [_], _ => rfl
theorem b_inverse_word (T : Txt K mg A fd) : Binds K (fd 21) ["w", "k"] [] := T.F_inverse_word.binds fun _ _ _ _ _ _ us hl => match us, hl with | [_, _], _ => rfl
theorem b_reduced_word (T : Txt K mg A fd) : Binds K (fd 22) ["w", "k"] [] := T.F_reduced_word.binds fun _ _ _ _ _ _ us hl => match us, hl with | [_, _], _ => rfl
theorem b_is_permutation (T : Txt K mg A fd) : Binds K (fd 6) ["value"] [] := T.F_is_permutation.binds fun _ _ _ _ _ _ us hl => match us, hl with | [_], _ => rfl
theorem b_is_system (T : Txt K mg A fd) : Binds K (fd 14) ["value"] [] := T.F_is_system.binds fun _ _ _ _ _ _ us hl => match us, hl with | [_], _ => rfl
theorem b_check_system (T : Txt K mg A fd) : Binds K (fd 15) ["S"] [] := T.F_check_system.binds fun _ _ _ _ _ _ us hl => match us, hl with | [_], _ => rfl
theorem b_is_sheet (T : Txt K mg A fd) : Binds K (fd 16) ["value", "S"] [] := T.F_is_sheet.binds fun _ _ _ _ _ _ us hl => match us, hl with | [_, _], _ => rfl
theorem b_check_sheet (T : Txt K mg A fd) : Binds K (fd 17) ["x", "S"] [] := T.F_check_sheet.binds fun _ _ _ _ _ _ us hl => match us, hl with | [_, _], _ => rfl
theorem b_led_along (T : Txt K mg A fd) : Binds K (fd 24) ["tables", "x", "w"] [] := T.F_led_along.binds fun _ _ _ _ _ _ us hl => match us, hl with | [_, _, _], _ => rfl
theorem b_check_permutation (T : Txt K mg A fd) : Binds K (fd 7) ["p"] [] := T.F_check_permutation.binds fun _ _ _ _ _ _ us hl => match us, hl with | [_], _ => rfl
theorem b_undone (T : Txt K mg A fd) : Binds K (fd 8) ["p"] [] := T.F_undone.binds fun _ _ _ _ _ _ us hl => match us, hl with | [_], _ => rfl
theorem b_inverse_of (T : Txt K mg A fd) : Binds K (fd 9) ["p"] [] := T.F_inverse_of.binds fun _ _ _ _ _ _ us hl => match us, hl with | [_], _ => rfl
theorem b_letter_tables (T : Txt K mg A fd) : Binds K (fd 23) ["S"] [] := T.F_letter_tables.binds fun _ _ _ _ _ _ us hl => match us, hl with | [_], _ => rfl
theorem b_walk_word (T : Txt K mg A fd) : Binds K (fd 25) ["S", "x", "w"] [] := T.F_walk_word.binds fun _ _ _ _ _ _ us hl => match us, hl with | [_, _, _], _ => rfl
theorem b_word_permutation (T : Txt K mg A fd) : Binds K (fd 26) ["S", "w"] [] := T.F_word_permutation.binds fun _ _ _ _ _ _ us hl => match us, hl with | [_, _], _ => rfl
theorem b_told_system (T : Txt K mg A fd) : Binds K (fd 27) ["S", "words"] [] := T.F_told_system.binds fun _ _ _ _ _ _ us hl => match us, hl with | [_, _], _ => rfl
theorem b_law_told (T : Txt K mg A fd) : Binds K (fd 44) ["which", "a", "b", "c"] [] := T.F_law_told.binds fun _ _ _ _ _ _ us hl => match us, hl with | [_, _, _, _], _ => rfl
theorem b_law_bad_hold (T : Txt K mg A fd) : Binds K (fd 47) ["S", "w", "k"] [] := T.F_law_bad_hold.binds fun _ _ _ _ _ _ us hl => match us, hl with | [_, _, _], _ => rfl
theorem b_law_letters (T : Txt K mg A fd) : Binds K (fd 39) ["k"] [] := T.F_law_letters.binds fun _ _ _ _ _ _ us hl => match us, hl with | [_], _ => rfl
theorem b_law_word (T : Txt K mg A fd) : Binds K (fd 40) ["state", "k", "most"] [] := T.F_law_word.binds fun _ _ _ _ _ _ us hl => match us, hl with | [_, _, _], _ => rfl
theorem b_law_reduced (T : Txt K mg A fd) : Binds K (fd 45) ["w"] [] := T.F_law_reduced.binds fun _ _ _ _ _ _ us hl => match us, hl with | [_], _ => rfl
theorem b_law_whole_reduced (T : Txt K mg A fd) : Binds K (fd 46) ["w"] [] := T.F_law_whole_reduced.binds fun _ _ _ _ _ _ us hl => match us, hl with | [_], _ => rfl
theorem b_law_step (T : Txt K mg A fd) : Binds K (fd 41) ["S", "x", "i"] [] := T.F_law_step.binds fun _ _ _ _ _ _ us hl => match us, hl with | [_, _, _], _ => rfl
theorem b_law_walk (T : Txt K mg A fd) : Binds K (fd 42) ["S", "x", "w"] [] := T.F_law_walk.binds fun _ _ _ _ _ _ us hl => match us, hl with | [_, _, _], _ => rfl
theorem b_law_product (T : Txt K mg A fd) : Binds K (fd 43) ["p", "q"] [] := T.F_law_product.binds fun _ _ _ _ _ _ us hl => match us, hl with | [_, _], _ => rfl
theorem b_law (T : Txt K mg A fd) : Binds K (fd 48) ["script"] [] := T.F_law.binds fun _ _ _ _ _ _ us hl => match us, hl with | [_], _ => rfl
noncomputable def b_law_state_0 : SS :=
      (sSeq (sSet 1 (mOp fAdd (mOp fMul (mVar 1) (mC (.int 1000003))) (mFn fAbs (mCons (mVar 3) mNil))))
      (sSet 2 (mOp fMod (mFn fInt (mCons (mOp fAdd (mOp fMul (mVar 2) (mC (.int 48271))) (mVar 3)) mNil)) (mC (.int 2147483647)))))
noncomputable def m_law_state : SS :=
      (sSeq (sSet 1 (mC (.int 0)))
      (sSeq (sSet 2 (mC (.int 1)))
      (sSeq (sFor (mItems (mSl fSl (mVar 0) mNoPart (mPart (mC (.int 63))))) (gN 3) b_law_state_0)
      (sRet (mNew (mCons (mVar 1) (mCons (mVar 2) mNil)))))))
theorem w_law_state {k : Nat} (T : Txt K mg A fd) : FnD P w K mg base (k + 1) (A 31) (fd 31) ["script"] (runF N_law_state (m_law_state)) := by
  refine fn_def T.F_law_state sc_law_state fun cdv A_ outer s H E X hX hr tk hp => ?_
  subst hX
  exact (es_cons (es_set 1 sc_law_state.nd ev_int)
      (es_cons (es_set 2 sc_law_state.nd ev_int)
      (es_cons (es_for hp rfl (ei_seq (ev_sl (ev_var 0) eo_none (eo_some ev_int))) (eg_name (vs := [3]) 3 sc_law_state.nd) (es_cons (es_set 1 sc_law_state.nd (ev_op opS_add (ev_op opS_mul (ev_var 1) ev_int) (ev_bf cs_abs T.z_abs PyProof.Rows.boot_abs (ea_cons (ev_var 3) ea_nil))))
      (es_one (es_set 2 sc_law_state.nd (ev_op opS_mod (ev_bt cs_int T.z_int PyProof.Rows.boot_int (ea_cons (ev_op opS_add (ev_op opS_mul (ev_var 2) ev_int) (ev_var 3)) ea_nil)) ev_int)))))
      (es_one (es_ret (ev_new (ef_lst (ea_cons (ev_var 1) (ea_cons (ev_var 2) ea_nil)) (lenA_cons (lenA_cons lenA_nil)))))))))
noncomputable def m_law_take : SS :=
      (sSeq (sIf (mB (mOp fGt (mOp fIx (mVar 0) (mC (.int 0))) (mC (.int 0)))) (sSeq (sSet 2 (mOp fMod (mFn fInt (mCons (mOp fIx (mVar 0) (mC (.int 0))) mNil)) (mVar 1)))
      (sSeq (sSub fSetL (mVar 0) (mC (.int 0)) (mOp fFdiv (mOp fIx (mVar 0) (mC (.int 0))) (mVar 1)))
      (sRet (mVar 2)))) sSkip)
      (sSeq (sSub fSetL (mVar 0) (mC (.int 1)) (mOp fMod (mFn fInt (mCons (mOp fAdd (mOp fMul (mOp fIx (mVar 0) (mC (.int 1))) (mC (.int 48271))) (mC (.int 11))) mNil)) (mC (.int 2147483647))))
      (sRet (mOp fMod (mFn fInt (mCons (mOp fFdiv (mOp fIx (mVar 0) (mC (.int 1))) (mC (.int 7))) mNil)) (mVar 1)))))
theorem w_law_take {k : Nat} (T : Txt K mg A fd) : FnD P w K mg base (k + 1) (A 32) (fd 32) ["state", "m"] (runF N_law_take (m_law_take)) := by
  refine fn_def T.F_law_take sc_law_take fun cdv A_ outer s H E X hX hr tk hp => ?_
  subst hX
  exact (es_cons (es_if (et_cmp opS_gt (ev_ix (ev_var 0) ev_int) ev_int (nomark _)) (es_cons (es_set 2 sc_law_take.nd (ev_op opS_mod (ev_bt cs_int T.z_int PyProof.Rows.boot_int (ea_cons (ev_ix (ev_var 0) ev_int) ea_nil)) (ev_var 1)))
      (es_cons (es_sub (ev_var 0) ev_int (ev_op opS_fdiv (ev_ix (ev_var 0) ev_int) (ev_var 1)))
      (es_one (es_ret (ev_var 2))))) es_nil)
      (es_cons (es_sub (ev_var 0) ev_int (ev_op opS_mod (ev_bt cs_int T.z_int PyProof.Rows.boot_int (ea_cons (ev_op opS_add (ev_op opS_mul (ev_ix (ev_var 0) ev_int) ev_int) ev_int) ea_nil)) ev_int))
      (es_one (es_ret (ev_op opS_mod (ev_bt cs_int T.z_int PyProof.Rows.boot_int (ea_cons (ev_op opS_fdiv (ev_ix (ev_var 0) ev_int) ev_int) ea_nil)) (ev_var 1))))))
noncomputable def b_law_inverse_0 : SS :=
      (sSub fSetL (mVar 1) (mOp fIx (mVar 0) (mVar 2)) (mVar 2))
noncomputable def e_law_inverse_0 : SE :=
      (mC (.int 0))
noncomputable def m_law_inverse : SS :=
      (sSeq (sSet 1 (mNew (mComp (mItems (mVar 0)) (gN 2) mYes e_law_inverse_0 [2])))
      (sSeq (sFor (mRng1 (mFn fLen (mCons (mVar 0) mNil))) (gN 2) b_law_inverse_0)
      (sRet (mFn fTuple (mCons (mVar 1) mNil)))))
theorem w_law_inverse {k : Nat} (T : Txt K mg A fd) : FnD P w K mg base (k + 1) (A 36) (fd 36) ["p"] (runF N_law_inverse (m_law_inverse)) := by
  refine fn_def T.F_law_inverse sc_law_inverse fun cdv A_ outer s H E X hX hr tk hp => ?_
  subst hX
  exact (es_cons (ps_setC (i := 1) (own := [("x", 2)]) (sm := mNew) (fun _ _ _ h_ => tM.new h_) rfl sc_law_inverse.nd (ei_seq (ev_var 0)) (blkOk_by (N := N_law_inverse) (sc := defScope s_law_inverse) (own := [("x", 2)]) (by decide +kernel)) (fun s_ H_ C_ cl_ fp_ => (eg_name (vs := _) 2 sc_law_inverse.nd)) (fun s_ H_ C_ cl_ fp_ => eif_nil) (fun s_ H_ C_ cl_ fp_ => ev_int))
      (es_cons (es_for hp rfl (ei_range1 T.z_range (ev_bf cs_len T.z_len PySem.boot_len (ea_cons (ev_var 0) ea_nil))) (eg_name (vs := [2]) 2 sc_law_inverse.nd) (es_one (es_sub (ev_var 1) (ev_ix (ev_var 0) (ev_var 2)) (ev_var 2))))
      (es_one (es_ret (ev_bt cs_tuple T.z_tuple PyProof.Rows.boot_tuple (ea_cons (ev_var 1) ea_nil))))))
noncomputable def c_law_permutation_0 : SB :=
      (mB (mOp fGt (mFn fLen (mCons (mVar 2) mNil)) (mC (.int 0))))
noncomputable def b_law_permutation_0 (f_law_take : FS) : SS :=
      (sExpr (mMeth fApp (mVar 3) (mCons (mMeth fPopAt (mVar 2) (mCons (mCall f_law_take (mCons (mVar 0) (mCons (mFn fLen (mCons (mVar 2) mNil)) mNil))) mNil)) mNil)))
noncomputable def m_law_permutation (f_law_take : FS) : SS :=
      (sSeq (sPar 2 3 (mNew (mRgL1 (mVar 1))) (mNew mNil))
      (sSeq (sWhile c_law_permutation_0 (b_law_permutation_0 f_law_take))
      (sRet (mFn fTuple (mCons (mVar 3) mNil)))))
theorem w_law_permutation {k : Nat} (T : Txt K mg A fd) {f_law_take : FS} (D_law_take : FnD P w K mg base k (A 32) (fd 32) ["state", "m"] f_law_take) : FnD P w K mg base (k + 1) (A 37) (fd 37) ["state", "d"] (runF N_law_permutation (m_law_permutation f_law_take)) := by
  refine fn_def T.F_law_permutation sc_law_permutation fun cdv A_ outer s H E X hX hr tk hp => ?_
  subst hX
  exact (es_cons (es_par 2 3 rfl sc_law_permutation.nd (ev_new (ef_listRg1 T.z_list (ev_var 1) rfl T.z_range)) (ev_new (ef_lst ea_nil lenA_nil)))
      (es_cons (es_while hp (et_cmp opS_gt (ev_bf cs_len T.z_len PySem.boot_len (ea_cons (ev_var 2) ea_nil)) ev_int (nomark _)) (es_one (es_expr (ev_bm PySem.F.slot_list_append rfl ms_append (ev_var 3) (ea_cons (ev_bm PySem.F.slot_list_pop rfl ms_popAt (ev_var 2) (ea_cons (ev_call D_law_take hr tk T.m_law_take T.F_law_take.kp (b_law_take T) (ea_cons (ev_var 0) (ea_cons (ev_bf cs_len T.z_len PySem.boot_len (ea_cons (ev_var 2) ea_nil)) ea_nil)) (lenA_cons (lenA_cons lenA_nil))) ea_nil)) ea_nil)))))
      (es_one (es_ret (ev_bt cs_tuple T.z_tuple PyProof.Rows.boot_tuple (ea_cons (ev_var 3) ea_nil))))))
noncomputable def e_law_system_0 : SE :=
      (mIf (mB (mOp fEq (mVar 8) (mVar 6))) (mVar 7) (mIf (mB (mOp fEq (mVar 8) (mVar 7))) (mVar 6) (mVar 8)))
noncomputable def e_law_system_1 : SE :=
      (mOp fMod (mFn fInt (mCons (mOp fAdd (mVar 8) (mC (.int 1))) mNil)) (mVar 1))
noncomputable def b_law_system_0 (f_law_take : FS) (f_law_inverse : FS) (f_law_permutation : FS) : SS :=
      (sSeq (sSet 5 (mCall f_law_take (mCons (mVar 0) (mCons (mC (.int 6)) mNil))))
      (sIf (mAnd (mB (mOp fEq (mVar 5) (mC (.int 0)))) (mB (mOp fGt (mFn fLen (mCons (mVar 3) mNil)) (mC (.int 0))))) (sExpr (mMeth fApp (mVar 3) (mCons (mCall f_law_inverse (mCons (mOp fIx (mVar 3) (mCall f_law_take (mCons (mVar 0) (mCons (mFn fLen (mCons (mVar 3) mNil)) mNil)))) mNil)) mNil))) (sIf (mAnd (mB (mOp fEq (mVar 5) (mC (.int 1)))) (mB (mOp fGt (mVar 1) (mC (.int 1))))) (sSeq (sSet 6 (mCall f_law_take (mCons (mVar 0) (mCons (mVar 1) mNil))))
      (sSeq (sSet 7 (mOp fMod (mFn fInt (mCons (mOp fAdd (mOp fAdd (mVar 6) (mC (.int 1))) (mCall f_law_take (mCons (mVar 0) (mCons (mOp fSub (mVar 1) (mC (.int 1))) mNil)))) mNil)) (mVar 1)))
      (sExpr (mMeth fApp (mVar 3) (mCons (mFn fTuple (mCons (mFrz (mComp (mRng1 (mVar 1)) (gN 8) mYes e_law_system_0 [8])) mNil)) mNil))))) (sIf (mB (mOp fEq (mVar 5) (mC (.int 2)))) (sExpr (mMeth fApp (mVar 3) (mCons (mFn fTuple (mCons (mFrz (mComp (mRng1 (mVar 1)) (gN 8) mYes e_law_system_1 [8])) mNil)) mNil))) (sExpr (mMeth fApp (mVar 3) (mCons (mCall f_law_permutation (mCons (mVar 0) (mCons (mVar 1) mNil))) mNil)))))))
noncomputable def m_law_system (f_law_take : FS) (f_law_inverse : FS) (f_law_permutation : FS) : SS :=
      (sSeq (sSet 3 (mNew mNil))
      (sSeq (sFor (mRng1 (mVar 2)) (gN 4) (b_law_system_0 f_law_take f_law_inverse f_law_permutation))
      (sRet (mTup (mCons (mVar 1) (mCons (mFn fTuple (mCons (mVar 3) mNil)) mNil))))))
theorem w_law_system {k : Nat} (T : Txt K mg A fd) {f_law_take : FS} (D_law_take : FnD P w K mg base k (A 32) (fd 32) ["state", "m"] f_law_take) {f_law_inverse : FS} (D_law_inverse : FnD P w K mg base k (A 36) (fd 36) ["p"] f_law_inverse) {f_law_permutation : FS} (D_law_permutation : FnD P w K mg base k (A 37) (fd 37) ["state", "d"] f_law_permutation) : FnD P w K mg base (k + 1) (A 38) (fd 38) ["state", "d", "k"] (runF N_law_system (m_law_system f_law_take f_law_inverse f_law_permutation)) := by
  refine fn_def T.F_law_system sc_law_system fun cdv A_ outer s H E X hX hr tk hp => ?_
  subst hX
  exact (es_cons (es_set 3 sc_law_system.nd (ev_new (ef_lst ea_nil lenA_nil)))
      (es_cons (es_for hp rfl (ei_range1 T.z_range (ev_var 2)) (eg_name (vs := [4]) 4 sc_law_system.nd) (es_cons (es_set 5 sc_law_system.nd (ev_call D_law_take hr tk T.m_law_take T.F_law_take.kp (b_law_take T) (ea_cons (ev_var 0) (ea_cons ev_int ea_nil)) (lenA_cons (lenA_cons lenA_nil))))
      (es_one (es_if (et_of (ew_and (et_cmp (opS_eq hr.units) (ev_var 5) ev_int (nomark _)) (ew_and1 (et_cmp opS_gt (ev_bf cs_len T.z_len PySem.boot_len (ea_cons (ev_var 3) ea_nil)) ev_int (nomark _))))) (es_one (es_expr (ev_bm PySem.F.slot_list_append rfl ms_append (ev_var 3) (ea_cons (ev_call D_law_inverse hr tk T.m_law_inverse T.F_law_inverse.kp (b_law_inverse T) (ea_cons (ev_ix (ev_var 3) (ev_call D_law_take hr tk T.m_law_take T.F_law_take.kp (b_law_take T) (ea_cons (ev_var 0) (ea_cons (ev_bf cs_len T.z_len PySem.boot_len (ea_cons (ev_var 3) ea_nil)) ea_nil)) (lenA_cons (lenA_cons lenA_nil)))) ea_nil) (lenA_cons lenA_nil)) ea_nil)))) (es_one (es_if (et_of (ew_and (et_cmp (opS_eq hr.units) (ev_var 5) ev_int (nomark _)) (ew_and1 (et_cmp opS_gt (ev_var 1) ev_int (nomark _))))) (es_cons (es_set 6 sc_law_system.nd (ev_call D_law_take hr tk T.m_law_take T.F_law_take.kp (b_law_take T) (ea_cons (ev_var 0) (ea_cons (ev_var 1) ea_nil)) (lenA_cons (lenA_cons lenA_nil))))
      (es_cons (es_set 7 sc_law_system.nd (ev_op opS_mod (ev_bt cs_int T.z_int PyProof.Rows.boot_int (ea_cons (ev_op opS_add (ev_op opS_add (ev_var 6) ev_int) (ev_call D_law_take hr tk T.m_law_take T.F_law_take.kp (b_law_take T) (ea_cons (ev_var 0) (ea_cons (ev_op opS_sub (ev_var 1) ev_int) ea_nil)) (lenA_cons (lenA_cons lenA_nil)))) ea_nil)) (ev_var 1)))
      (es_one (es_expr (ev_bm PySem.F.slot_list_append rfl ms_append (ev_var 3) (ea_cons (ev_bt cs_tuple T.z_tuple PyProof.Rows.boot_tuple (ea_cons (ev_frz (ef_comp (own := [("x", 8)]) rfl sc_law_system.nd (ei_range1 T.z_range (ev_var 1)) (blkOk_by (N := N_law_system) (sc := defScope s_law_system) (own := [("x", 8)]) (by decide +kernel)) (fun s_ H_ C_ cl_ fp_ => (eg_name (vs := _) 8 sc_law_system.nd)) (fun s_ H_ C_ cl_ fp_ => eif_nil) (fun s_ H_ C_ cl_ fp_ => (ev_if (et_cmp (opS_eq hr.units) (ev_var 8) (ev_var 6) (nomark _)) (ev_var 7) (ev_if (et_cmp (opS_eq hr.units) (ev_var 8) (ev_var 7) (nomark _)) (ev_var 6) (ev_var 8)))))) ea_nil)) ea_nil)))))) (es_one (es_if (et_cmp (opS_eq hr.units) (ev_var 5) ev_int (nomark _)) (es_one (es_expr (ev_bm PySem.F.slot_list_append rfl ms_append (ev_var 3) (ea_cons (ev_bt cs_tuple T.z_tuple PyProof.Rows.boot_tuple (ea_cons (ev_frz (ef_comp (own := [("x", 8)]) rfl sc_law_system.nd (ei_range1 T.z_range (ev_var 1)) (blkOk_by (N := N_law_system) (sc := defScope s_law_system) (own := [("x", 8)]) (by decide +kernel)) (fun s_ H_ C_ cl_ fp_ => (eg_name (vs := _) 8 sc_law_system.nd)) (fun s_ H_ C_ cl_ fp_ => eif_nil) (fun s_ H_ C_ cl_ fp_ => (ev_op opS_mod (ev_bt cs_int T.z_int PyProof.Rows.boot_int (ea_cons (ev_op opS_add (ev_var 8) ev_int) ea_nil)) (ev_var 1))))) ea_nil)) ea_nil)))) (es_one (es_expr (ev_bm PySem.F.slot_list_append rfl ms_append (ev_var 3) (ea_cons (ev_call D_law_permutation hr tk T.m_law_permutation T.F_law_permutation.kp (b_law_permutation T) (ea_cons (ev_var 0) (ea_cons (ev_var 1) ea_nil)) (lenA_cons (lenA_cons lenA_nil))) ea_nil))))))))))))
      (es_one (es_ret (ev_tup (ea_cons (ev_var 1) (ea_cons (ev_bt cs_tuple T.z_tuple PyProof.Rows.boot_tuple (ea_cons (ev_var 3) ea_nil)) ea_nil)) (lenA_cons (lenA_cons lenA_nil)))))))
noncomputable def m_law_says : SS :=
      (sRet (mAndV (mIsi (mVar 0) .bool) (mOp fEq (mVar 0) (mVar 1))))
theorem w_law_says {k : Nat} (T : Txt K mg A fd) : FnD P w K mg base (k + 1) (A 33) (fd 33) ["value", "due"] (runF N_law_says (m_law_says)) := by
  refine fn_def T.F_law_says sc_law_says fun cdv A_ outer s H E X hX hr tk hp => ?_
  subst hX
  exact (es_one (es_ret (ev_and (ev_isi .bool T.z_isinstance T.z_bool PyProof.Rows.boot_bool (ev_var 0)) (ev_one (ev_cmp (opS_eq hr.units) (ev_var 0) (ev_var 1) (nomark _))))))
noncomputable def m_law_is_number : SS :=
      (sRet (mAndV (mIsi (mVar 0) .int) (mNotV (mIsi (mVar 0) .bool))))
theorem w_law_is_number {k : Nat} (T : Txt K mg A fd) : FnD P w K mg base (k + 1) (A 34) (fd 34) ["value"] (runF N_law_is_number (m_law_is_number)) := by
  refine fn_def T.F_law_is_number sc_law_is_number fun cdv A_ outer s H E X hX hr tk hp => ?_
  subst hX
  exact (es_one (es_ret (ev_and (ev_isi .int T.z_isinstance T.z_int PyProof.Rows.boot_int (ev_var 0)) (ev_one (ev_not (ev_isi .bool T.z_isinstance T.z_bool PyProof.Rows.boot_bool (ev_var 0)))))))
noncomputable def e_law_is_word_0 (f_law_is_number : FS) : SE :=
      (mAndV (mCall f_law_is_number (mCons (mVar 2) mNil)) (mChain fLe fLe (mC (.int 1)) (mFn fAbs (mCons (mVar 2) mNil)) (mVar 1)))
noncomputable def m_law_is_word (f_law_is_number : FS) : SS :=
      (sSeq (sIf (mOr (mNot (mB (mIsi (mVar 0) .tup))) (mB (mOp fGt (mFn fLen (mCons (mVar 0) mNil)) (mC (.int 2000))))) (sRet (mC (.bl false))) sSkip)
      (sRet (mFn fAll (mCons (mFrz (mComp (mItems (mVar 0)) (gN 2) mYes (e_law_is_word_0 f_law_is_number) [2])) mNil))))
theorem w_law_is_word {k : Nat} (T : Txt K mg A fd) {f_law_is_number : FS} (D_law_is_number : FnD P w K mg base k (A 34) (fd 34) ["value"] f_law_is_number) : FnD P w K mg base (k + 1) (A 35) (fd 35) ["value", "k"] (runF N_law_is_word (m_law_is_word f_law_is_number)) := by
  refine fn_def T.F_law_is_word sc_law_is_word fun cdv A_ outer s H E X hX hr tk hp => ?_
  subst hX
  exact (es_cons (es_if (et_of (ew_or (et_not (et_val (ev_isi .tup T.z_isinstance T.z_tuple PyProof.Rows.boot_tuple (ev_var 0)))) (ew_or1 (et_cmp opS_gt (ev_bf cs_len T.z_len PySem.boot_len (ea_cons (ev_var 0) ea_nil)) ev_int (nomark _))))) (es_one (es_ret ev_bl)) es_nil)
      (es_one (es_ret (ev_bf (cs_all rfl) T.z_all PyProof.Rows.boot_all (ea_cons (ev_frz (ef_comp (own := [("i", 2)]) rfl sc_law_is_word.nd (ei_seq (ev_var 0)) (blkOk_by (N := N_law_is_word) (sc := defScope s_law_is_word) (own := [("i", 2)]) (by decide +kernel)) (fun s_ H_ C_ cl_ fp_ => (eg_name (vs := _) 2 sc_law_is_word.nd)) (fun s_ H_ C_ cl_ fp_ => eif_nil) (fun s_ H_ C_ cl_ fp_ => (ev_and (ev_call D_law_is_number hr takes_none5 T.m_law_is_number T.F_law_is_number.kp (b_law_is_number T) (ea_cons (ev_var 2) ea_nil) (lenA_cons lenA_nil)) (ev_one (ev_chain opS_le opS_le ev_int (ev_bf cs_abs T.z_abs PyProof.Rows.boot_abs (ea_cons (ev_var 2) ea_nil)) (ev_var 1))))))) ea_nil)))))
noncomputable def e_law_inner_0 (r_ : FS) : SE :=
      (mCall r_ (mCons (mVar 1) mNil))
noncomputable def m_law_inner (r_ : FS) : SS :=
      (sSeq (sIf (mB (mIsi (mVar 0) .tup)) (sRet (mFn fTuple (mCons (mFrz (mComp (mItems (mVar 0)) (gN 1) mYes (e_law_inner_0 r_) [1])) mNil))) sSkip)
      (sSeq (sIf (mOr (mB (mOp fIs (mVar 0) (mC .non))) (mOr (mB (mIsi (mVar 0) .str)) (mAnd (mB (mIsi (mVar 0) .int)) (mNot (mB (mIsi (mVar 0) .bool)))))) (sRet (mVar 0)) sSkip)
      (sRet (mC (.str "odd")))))
theorem w_law_inner {k : Nat} (T : Txt K mg A fd) {r_ : FS} (R_ : FnD P w K mg base k (A 29) (fd 29) ["value"] r_) : FnD P w K mg base (k + 1) (A 29) (fd 29) ["value"] (runF N_law_inner (m_law_inner r_)) := by
  refine fn_def T.F_law_inner sc_law_inner fun cdv A_ outer s H E X hX hr tk hp => ?_
  subst hX
  exact (es_cons (es_if (et_val (ev_isi .tup T.z_isinstance T.z_tuple PyProof.Rows.boot_tuple (ev_var 0))) (es_one (es_ret (ev_bt cs_tuple T.z_tuple PyProof.Rows.boot_tuple (ea_cons (ev_frz (ef_comp (own := [("item", 1)]) rfl sc_law_inner.nd (ei_seq (ev_var 0)) (blkOk_by (N := N_law_inner) (sc := defScope s_law_inner) (own := [("item", 1)]) (by decide +kernel)) (fun s_ H_ C_ cl_ fp_ => (eg_name (vs := _) 1 sc_law_inner.nd)) (fun s_ H_ C_ cl_ fp_ => eif_nil) (fun s_ H_ C_ cl_ fp_ => (ev_call R_ hr takes_none5 T.m_law_inner T.F_law_inner.kp (b_law_inner T) (ea_cons (ev_var 1) ea_nil) (lenA_cons lenA_nil))))) ea_nil)))) es_nil)
      (es_cons (es_if (et_of (ew_or (et_cmp opS_is (ev_var 0) ev_non (nomark _)) (ew_or (et_val (ev_isi .str T.z_isinstance T.z_str PyProof.Rows.boot_str (ev_var 0))) (ew_or1 (et_of (ew_and (et_val (ev_isi .int T.z_isinstance T.z_int PyProof.Rows.boot_int (ev_var 0))) (ew_and1 (et_not (et_val (ev_isi .bool T.z_isinstance T.z_bool PyProof.Rows.boot_bool (ev_var 0))))))))))) (es_one (es_ret (ev_var 0))) es_nil)
      (es_one (es_ret ev_str))))
noncomputable def m_law_plain (f_law_inner : FS) : SS :=
      (sRet (mIf (mB (mIsi (mVar 0) .str)) (mC (.str "odd")) (mCall f_law_inner (mCons (mVar 0) mNil))))
theorem w_law_plain {k : Nat} (T : Txt K mg A fd) {f_law_inner : FS} (D_law_inner : FnD P w K mg base k (A 29) (fd 29) ["value"] f_law_inner) : FnD P w K mg base (k + 1) (A 30) (fd 30) ["value"] (runF N_law_plain (m_law_plain f_law_inner)) := by
  refine fn_def T.F_law_plain sc_law_plain fun cdv A_ outer s H E X hX hr tk hp => ?_
  subst hX
  exact (es_one (es_ret (ev_if (et_val (ev_isi .str T.z_isinstance T.z_str PyProof.Rows.boot_str (ev_var 0))) ev_str (ev_call D_law_inner hr tk T.m_law_inner T.F_law_inner.kp (b_law_inner T) (ea_cons (ev_var 0) ea_nil) (lenA_cons lenA_nil)))))
noncomputable def m_is_integer : SS :=
      (sRet (mAndV (mIsi (mVar 0) .int) (mNotV (mIsi (mVar 0) .bool))))
theorem w_is_integer {k : Nat} (T : Txt K mg A fd) : FnD P w K mg base (k + 1) (A 4) (fd 4) ["value"] (runF N_is_integer (m_is_integer)) := by
  refine fn_def T.F_is_integer sc_is_integer fun cdv A_ outer s H E X hX hr tk hp => ?_
  subst hX
  exact (es_one (es_ret (ev_and (ev_isi .int T.z_isinstance T.z_int PyProof.Rows.boot_int (ev_var 0)) (ev_one (ev_not (ev_isi .bool T.z_isinstance T.z_bool PyProof.Rows.boot_bool (ev_var 0)))))))
noncomputable def e_is_word_0 (f_is_integer : FS) : SE :=
      (mAndV (mCall f_is_integer (mCons (mVar 2) mNil)) (mChain fLe fLe (mC (.int 1)) (mFn fAbs (mCons (mVar 2) mNil)) (mVar 1)))
noncomputable def m_is_word (A : Nat → Addr) (f_is_integer : FS) : SS :=
      (sSeq (sIf (mOr (mNot (mB (mCall f_is_integer (mCons (mVar 1) mNil)))) (mNot (mB (mChain fLe fLe (mC (.int 0)) (mVar 1) (mC (.int 12)))))) (sRaise (A 2)) sSkip)
      (sSeq (sIf (mOr (mNot (mB (mIsi (mVar 0) .tup))) (mB (mOp fGt (mFn fLen (mCons (mVar 0) mNil)) (mC (.int 2000))))) (sRet (mC (.bl false))) sSkip)
      (sRet (mFn fAll (mCons (mFrz (mComp (mItems (mVar 0)) (gN 2) mYes (e_is_word_0 f_is_integer) [2])) mNil)))))
theorem w_is_word {k : Nat} (T : Txt K mg A fd) {f_is_integer : FS} (D_is_integer : FnD P w K mg base k (A 4) (fd 4) ["value"] f_is_integer) : FnD P w K mg base (k + 1) (A 18) (fd 18) ["value", "k"] (runF N_is_word (m_is_word A f_is_integer)) := by
  obtain ⟨t_MOST_LETTERS, c_MOST_LETTERS⟩ := T.c_MOST_LETTERS
  obtain ⟨t_MOST_RANK, c_MOST_RANK⟩ := T.c_MOST_RANK
  refine fn_def T.F_is_word sc_is_word fun cdv A_ outer s H E X hX hr tk hp => ?_
  subst hX
  exact (es_cons (es_if (et_of (ew_or (et_not (et_val (ev_call D_is_integer hr tk T.m_is_integer T.F_is_integer.kp (b_is_integer T) (ea_cons (ev_var 1) ea_nil) (lenA_cons lenA_nil)))) (ew_or1 (et_not (et_chain opS_le opS_le ev_int (ev_var 1) (ev_gint rfl c_MOST_RANK)))))) (es_one (es_raise rfl tk T.q_Malformed T.m_Malformed T.k_Malformed T.b_Malformed T.t_Malformed)) es_nil)
      (es_cons (es_if (et_of (ew_or (et_not (et_val (ev_isi .tup T.z_isinstance T.z_tuple PyProof.Rows.boot_tuple (ev_var 0)))) (ew_or1 (et_cmp opS_gt (ev_bf cs_len T.z_len PySem.boot_len (ea_cons (ev_var 0) ea_nil)) (ev_gint rfl c_MOST_LETTERS) (nomark _))))) (es_one (es_ret ev_bl)) es_nil)
      (es_one (es_ret (ev_bf (cs_all rfl) T.z_all PyProof.Rows.boot_all (ea_cons (ev_frz (ef_comp (own := [("letter", 2)]) rfl sc_is_word.nd (ei_seq (ev_var 0)) (blkOk_by (N := N_is_word) (sc := defScope s_is_word) (own := [("letter", 2)]) (by decide +kernel)) (fun s_ H_ C_ cl_ fp_ => (eg_name (vs := _) 2 sc_is_word.nd)) (fun s_ H_ C_ cl_ fp_ => eif_nil) (fun s_ H_ C_ cl_ fp_ => (ev_and (ev_call D_is_integer hr takes_none5 T.m_is_integer T.F_is_integer.kp (b_is_integer T) (ea_cons (ev_var 2) ea_nil) (lenA_cons lenA_nil)) (ev_one (ev_chain opS_le opS_le ev_int (ev_bf cs_abs T.z_abs PyProof.Rows.boot_abs (ea_cons (ev_var 2) ea_nil)) (ev_var 1))))))) ea_nil))))))
noncomputable def m_check_word (A : Nat → Addr) (f_is_word : FS) : SS :=
      (sIf (mNot (mB (mCall f_is_word (mCons (mVar 0) (mCons (mVar 1) mNil))))) (sRaise (A 2)) sSkip)
theorem w_check_word {k : Nat} (T : Txt K mg A fd) {f_is_word : FS} (D_is_word : FnD P w K mg base k (A 18) (fd 18) ["value", "k"] f_is_word) : FnD P w K mg base (k + 1) (A 19) (fd 19) ["w", "k"] (runF N_check_word (m_check_word A f_is_word)) := by
  refine fn_def T.F_check_word sc_check_word fun cdv A_ outer s H E X hX hr tk hp => ?_
  subst hX
  exact (es_one (es_if (et_not (et_val (ev_call D_is_word hr tk T.m_is_word T.F_is_word.kp (b_is_word T) (ea_cons (ev_var 0) (ea_cons (ev_var 1) ea_nil)) (lenA_cons (lenA_cons lenA_nil))))) (es_one (es_raise rfl tk T.q_Malformed T.m_Malformed T.k_Malformed T.b_Malformed T.t_Malformed)) es_nil))
noncomputable def e_turned_word_0 : SE :=
      (mNeg (mVar 1))
noncomputable def m_turned_word : SS :=
      (sRet (mFn fTuple (mCons (mFrz (mComp (mItems (mRevT (mVar 0))) (gN 1) mYes e_turned_word_0 [1])) mNil)))
theorem w_turned_word {k : Nat} (T : Txt K mg A fd) : FnD P w K mg base (k + 1) (A 20) (fd 20) ["w"] (runF N_turned_word (m_turned_word)) := by
  refine fn_def T.F_turned_word sc_turned_word fun cdv A_ outer s H E X hX hr tk hp => ?_
  subst hX
  exact (es_one (es_ret (ev_bt cs_tuple T.z_tuple PyProof.Rows.boot_tuple (ea_cons (ev_frz (ef_comp (own := [("letter", 1)]) rfl sc_turned_word.nd (ei_seq (ev_revT (ev_var 0))) (blkOk_by (N := N_turned_word) (sc := defScope s_turned_word) (own := [("letter", 1)]) (by decide +kernel)) (fun s_ H_ C_ cl_ fp_ => (eg_name (vs := _) 1 sc_turned_word.nd)) (fun s_ H_ C_ cl_ fp_ => eif_nil) (fun s_ H_ C_ cl_ fp_ => (ev_neg (ev_var 1))))) ea_nil))))
noncomputable def m_inverse_word (f_check_word : FS) (f_turned_word : FS) : SS :=
      (sSeq (sExpr (mCall f_check_word (mCons (mVar 0) (mCons (mVar 1) mNil))))
      (sRet (mCall f_turned_word (mCons (mVar 0) mNil))))
theorem w_inverse_word {k : Nat} (T : Txt K mg A fd) {f_check_word : FS} (D_check_word : FnD P w K mg base k (A 19) (fd 19) ["w", "k"] f_check_word) {f_turned_word : FS} (D_turned_word : FnD P w K mg base k (A 20) (fd 20) ["w"] f_turned_word) : FnD P w K mg base (k + 1) (A 21) (fd 21) ["w", "k"] (runF N_inverse_word (m_inverse_word f_check_word f_turned_word)) := by
  refine fn_def T.F_inverse_word sc_inverse_word fun cdv A_ outer s H E X hX hr tk hp => ?_
  subst hX
  exact (es_cons (es_expr (ev_call D_check_word hr tk T.m_check_word T.F_check_word.kp (b_check_word T) (ea_cons (ev_var 0) (ea_cons (ev_var 1) ea_nil)) (lenA_cons (lenA_cons lenA_nil))))
      (es_one (es_ret (ev_call D_turned_word hr tk T.m_turned_word T.F_turned_word.kp (b_turned_word T) (ea_cons (ev_var 0) ea_nil) (lenA_cons lenA_nil)))))
noncomputable def b_reduced_word_0 : SS :=
      (sIf (mAnd (mB (mOp fGt (mFn fLen (mCons (mVar 2) mNil)) (mC (.int 0)))) (mB (mOp fEq (mOp fIx (mVar 2) (mNeg (mC (.int 1)))) (mNeg (mVar 3))))) (sExpr (mMeth fPop (mVar 2) mNil)) (sExpr (mMeth fApp (mVar 2) (mCons (mVar 3) mNil))))
noncomputable def m_reduced_word (f_check_word : FS) : SS :=
      (sSeq (sExpr (mCall f_check_word (mCons (mVar 0) (mCons (mVar 1) mNil))))
      (sSeq (sSet 2 (mNew mNil))
      (sSeq (sFor (mItems (mVar 0)) (gN 3) b_reduced_word_0)
      (sRet (mFn fTuple (mCons (mVar 2) mNil))))))
theorem w_reduced_word {k : Nat} (T : Txt K mg A fd) {f_check_word : FS} (D_check_word : FnD P w K mg base k (A 19) (fd 19) ["w", "k"] f_check_word) : FnD P w K mg base (k + 1) (A 22) (fd 22) ["w", "k"] (runF N_reduced_word (m_reduced_word f_check_word)) := by
  refine fn_def T.F_reduced_word sc_reduced_word fun cdv A_ outer s H E X hX hr tk hp => ?_
  subst hX
  exact (es_cons (es_expr (ev_call D_check_word hr tk T.m_check_word T.F_check_word.kp (b_check_word T) (ea_cons (ev_var 0) (ea_cons (ev_var 1) ea_nil)) (lenA_cons (lenA_cons lenA_nil))))
      (es_cons (es_set 2 sc_reduced_word.nd (ev_new (ef_lst ea_nil lenA_nil)))
      (es_cons (es_for hp rfl (ei_seq (ev_var 0)) (eg_name (vs := [3]) 3 sc_reduced_word.nd) (es_one (es_if (et_of (ew_and (et_cmp opS_gt (ev_bf cs_len T.z_len PySem.boot_len (ea_cons (ev_var 2) ea_nil)) ev_int (nomark _)) (ew_and1 (et_cmp (opS_eq hr.units) (ev_ix (ev_var 2) (ev_neg ev_int)) (ev_neg (ev_var 3)) (nomark _))))) (es_one (es_expr (ev_bm0 PySem.F.slot_list_pop rfl ms_pop (ev_var 2)))) (es_one (es_expr (ev_bm PySem.F.slot_list_append rfl ms_append (ev_var 2) (ea_cons (ev_var 3) ea_nil)))))))
      (es_one (es_ret (ev_bt cs_tuple T.z_tuple PyProof.Rows.boot_tuple (ea_cons (ev_var 2) ea_nil)))))))
noncomputable def b_is_permutation_0 (f_is_integer : FS) : SS :=
      (sSeq (sIf (mOr (mNot (mB (mCall f_is_integer (mCons (mVar 2) mNil)))) (mOr (mB (mOp fLt (mVar 2) (mC (.int 0)))) (mOr (mB (mOp fGe (mVar 2) (mFn fLen (mCons (mVar 0) mNil)))) (mB (mOp (fDIn true) (mVar 2) (mVar 1)))))) (sRet (mC (.bl false))) sSkip)
      (sSub fSetD (mVar 1) (mVar 2) (mC (.bl true))))
noncomputable def m_is_permutation (f_is_integer : FS) : SS :=
      (sSeq (sIf (mNot (mB (mIsi (mVar 0) .tup))) (sRet (mC (.bl false))) sSkip)
      (sSeq (sSet 1 mDNewK)
      (sSeq (sFor (mItems (mVar 0)) (gN 2) (b_is_permutation_0 f_is_integer))
      (sRet (mC (.bl true))))))
theorem w_is_permutation {k : Nat} (T : Txt K mg A fd) {f_is_integer : FS} (D_is_integer : FnD P w K mg base k (A 4) (fd 4) ["value"] f_is_integer) : FnD P w K mg base (k + 1) (A 6) (fd 6) ["value"] (runF N_is_permutation (m_is_permutation f_is_integer)) := by
  refine fn_def T.F_is_permutation sc_is_permutation fun cdv A_ outer s H E X hX hr tk hp => ?_
  subst hX
  exact (es_cons (es_if (et_not (et_val (ev_isi .tup T.z_isinstance T.z_tuple PyProof.Rows.boot_tuple (ev_var 0)))) (es_one (es_ret ev_bl)) es_nil)
      (es_cons (es_set 1 sc_is_permutation.nd ev_dnewK)
      (es_cons (es_for hp rfl (ei_seq (ev_var 0)) (eg_name (vs := [2]) 2 sc_is_permutation.nd) (es_cons (es_if (et_of (ew_or (et_not (et_val (ev_call D_is_integer hr tk T.m_is_integer T.F_is_integer.kp (b_is_integer T) (ea_cons (ev_var 2) ea_nil) (lenA_cons lenA_nil)))) (ew_or (et_cmp opS_lt (ev_var 2) ev_int (nomark _)) (ew_or (et_cmp opS_ge (ev_var 2) (ev_bf cs_len T.z_len PySem.boot_len (ea_cons (ev_var 0) ea_nil)) (nomark _)) (ew_or1 (et_din (hu_of hr) (ev_var 2) (ev_var 1))))))) (es_one (es_ret ev_bl)) es_nil)
      (es_one (es_dput (hu_of hr) (ev_var 1) (ev_var 2) ev_bl))))
      (es_one (es_ret ev_bl)))))
noncomputable def e_is_system_0 (f_is_permutation : FS) : SE :=
      (mAndV (mCall f_is_permutation (mCons (mVar 3) mNil)) (mOp fEq (mFn fLen (mCons (mVar 3) mNil)) (mVar 1)))
noncomputable def m_is_system (f_is_integer : FS) (f_is_permutation : FS) : SS :=
      (sSeq (sIf (mOr (mNot (mB (mIsi (mVar 0) .tup))) (mB (mOp fNe (mFn fLen (mCons (mVar 0) mNil)) (mC (.int 2))))) (sRet (mC (.bl false))) sSkip)
      (sSeq (sAsg (gT (gsCons (gN 1) (gsCons (gN 2) gsNil))) (mVar 0))
      (sSeq (sIf (mOr (mNot (mB (mCall f_is_integer (mCons (mVar 1) mNil)))) (mOr (mNot (mB (mChain fLe fLe (mC (.int 0)) (mVar 1) (mC (.int 24))))) (mOr (mNot (mB (mIsi (mVar 2) .tup))) (mB (mOp fGt (mFn fLen (mCons (mVar 2) mNil)) (mC (.int 12))))))) (sRet (mC (.bl false))) sSkip)
      (sRet (mFn fAll (mCons (mFrz (mComp (mItems (mVar 2)) (gN 3) mYes (e_is_system_0 f_is_permutation) [3])) mNil))))))
theorem w_is_system {k : Nat} (T : Txt K mg A fd) {f_is_integer : FS} (D_is_integer : FnD P w K mg base k (A 4) (fd 4) ["value"] f_is_integer) {f_is_permutation : FS} (D_is_permutation : FnD P w K mg base k (A 6) (fd 6) ["value"] f_is_permutation) : FnD P w K mg base (k + 1) (A 14) (fd 14) ["value"] (runF N_is_system (m_is_system f_is_integer f_is_permutation)) := by
  obtain ⟨t_MOST_RANK, c_MOST_RANK⟩ := T.c_MOST_RANK
  obtain ⟨t_MOST_SHEETS, c_MOST_SHEETS⟩ := T.c_MOST_SHEETS
  refine fn_def T.F_is_system sc_is_system fun cdv A_ outer s H E X hX hr tk hp => ?_
  subst hX
  exact (es_cons (es_if (et_of (ew_or (et_not (et_val (ev_isi .tup T.z_isinstance T.z_tuple PyProof.Rows.boot_tuple (ev_var 0)))) (ew_or1 (et_cmp (opS_ne hr.units) (ev_bf cs_len T.z_len PySem.boot_len (ea_cons (ev_var 0) ea_nil)) ev_int (nomark _))))) (es_one (es_ret ev_bl)) es_nil)
      (es_cons (es_asg (ev_var 0) (eg_tup rfl (egs_cons (eg_name (vs := [1, 2]) 1 sc_is_system.nd) (egs_cons (eg_name (vs := [1, 2]) 2 sc_is_system.nd) egs_nil)) (lenG_cons (lenG_cons lenG_nil))))
      (es_cons (es_if (et_of (ew_or (et_not (et_val (ev_call D_is_integer hr tk T.m_is_integer T.F_is_integer.kp (b_is_integer T) (ea_cons (ev_var 1) ea_nil) (lenA_cons lenA_nil)))) (ew_or (et_not (et_chain opS_le opS_le ev_int (ev_var 1) (ev_gint rfl c_MOST_SHEETS))) (ew_or (et_not (et_val (ev_isi .tup T.z_isinstance T.z_tuple PyProof.Rows.boot_tuple (ev_var 2)))) (ew_or1 (et_cmp opS_gt (ev_bf cs_len T.z_len PySem.boot_len (ea_cons (ev_var 2) ea_nil)) (ev_gint rfl c_MOST_RANK) (nomark _))))))) (es_one (es_ret ev_bl)) es_nil)
      (es_one (es_ret (ev_bf (cs_all rfl) T.z_all PyProof.Rows.boot_all (ea_cons (ev_frz (ef_comp (own := [("p", 3)]) rfl sc_is_system.nd (ei_seq (ev_var 2)) (blkOk_by (N := N_is_system) (sc := defScope s_is_system) (own := [("p", 3)]) (by decide +kernel)) (fun s_ H_ C_ cl_ fp_ => (eg_name (vs := _) 3 sc_is_system.nd)) (fun s_ H_ C_ cl_ fp_ => eif_nil) (fun s_ H_ C_ cl_ fp_ => (ev_and (ev_call D_is_permutation hr takes_none5 T.m_is_permutation T.F_is_permutation.kp (b_is_permutation T) (ea_cons (ev_var 3) ea_nil) (lenA_cons lenA_nil)) (ev_one (ev_cmp (opS_eq hr.units) (ev_bf cs_len T.z_len PySem.boot_len (ea_cons (ev_var 3) ea_nil)) (ev_var 1) (nomark _))))))) ea_nil)))))))
noncomputable def m_check_system (A : Nat → Addr) (f_is_system : FS) : SS :=
      (sIf (mNot (mB (mCall f_is_system (mCons (mVar 0) mNil)))) (sRaise (A 2)) sSkip)
theorem w_check_system {k : Nat} (T : Txt K mg A fd) {f_is_system : FS} (D_is_system : FnD P w K mg base k (A 14) (fd 14) ["value"] f_is_system) : FnD P w K mg base (k + 1) (A 15) (fd 15) ["S"] (runF N_check_system (m_check_system A f_is_system)) := by
  refine fn_def T.F_check_system sc_check_system fun cdv A_ outer s H E X hX hr tk hp => ?_
  subst hX
  exact (es_one (es_if (et_not (et_val (ev_call D_is_system hr tk T.m_is_system T.F_is_system.kp (b_is_system T) (ea_cons (ev_var 0) ea_nil) (lenA_cons lenA_nil)))) (es_one (es_raise rfl tk T.q_Malformed T.m_Malformed T.k_Malformed T.b_Malformed T.t_Malformed)) es_nil))
noncomputable def m_is_sheet (f_is_integer : FS) : SS :=
      (sRet (mAndV (mCall f_is_integer (mCons (mVar 0) mNil)) (mChain fLe fLt (mC (.int 0)) (mVar 0) (mOp fIx (mVar 1) (mC (.int 0))))))
theorem w_is_sheet {k : Nat} (T : Txt K mg A fd) {f_is_integer : FS} (D_is_integer : FnD P w K mg base k (A 4) (fd 4) ["value"] f_is_integer) : FnD P w K mg base (k + 1) (A 16) (fd 16) ["value", "S"] (runF N_is_sheet (m_is_sheet f_is_integer)) := by
  refine fn_def T.F_is_sheet sc_is_sheet fun cdv A_ outer s H E X hX hr tk hp => ?_
  subst hX
  exact (es_one (es_ret (ev_and (ev_call D_is_integer hr tk T.m_is_integer T.F_is_integer.kp (b_is_integer T) (ea_cons (ev_var 0) ea_nil) (lenA_cons lenA_nil)) (ev_one (ev_chain opS_le opS_lt ev_int (ev_var 0) (ev_ix (ev_var 1) ev_int))))))
noncomputable def m_check_sheet (A : Nat → Addr) (f_is_sheet : FS) : SS :=
      (sIf (mNot (mB (mCall f_is_sheet (mCons (mVar 0) (mCons (mVar 1) mNil))))) (sRaise (A 2)) sSkip)
theorem w_check_sheet {k : Nat} (T : Txt K mg A fd) {f_is_sheet : FS} (D_is_sheet : FnD P w K mg base k (A 16) (fd 16) ["value", "S"] f_is_sheet) : FnD P w K mg base (k + 1) (A 17) (fd 17) ["x", "S"] (runF N_check_sheet (m_check_sheet A f_is_sheet)) := by
  refine fn_def T.F_check_sheet sc_check_sheet fun cdv A_ outer s H E X hX hr tk hp => ?_
  subst hX
  exact (es_one (es_if (et_not (et_val (ev_call D_is_sheet hr tk T.m_is_sheet T.F_is_sheet.kp (b_is_sheet T) (ea_cons (ev_var 0) (ea_cons (ev_var 1) ea_nil)) (lenA_cons (lenA_cons lenA_nil))))) (es_one (es_raise rfl tk T.q_Malformed T.m_Malformed T.k_Malformed T.b_Malformed T.t_Malformed)) es_nil))
noncomputable def b_led_along_0 : SS :=
      (sSet 1 (mOp fIx (mOp fDGet (mVar 0) (mVar 3)) (mVar 1)))
noncomputable def m_led_along : SS :=
      (sSeq (sFor (mItems (mVar 2)) (gN 3) b_led_along_0)
      (sRet (mVar 1)))
theorem w_led_along {k : Nat} (T : Txt K mg A fd) : FnD P w K mg base (k + 1) (A 24) (fd 24) ["tables", "x", "w"] (runF N_led_along (m_led_along)) := by
  refine fn_def T.F_led_along sc_led_along fun cdv A_ outer s H E X hX hr tk hp => ?_
  subst hX
  exact (es_cons (es_for hp rfl (ei_seq (ev_var 2)) (eg_name (vs := [3]) 3 sc_led_along.nd) (es_one (es_set 1 sc_led_along.nd (ev_ix (ev_dget (hu_of hr) (ev_var 0) (ev_var 3)) (ev_var 1)))))
      (es_one (es_ret (ev_var 1))))
noncomputable def m_check_permutation (A : Nat → Addr) (f_is_permutation : FS) : SS :=
      (sIf (mNot (mB (mCall f_is_permutation (mCons (mVar 0) mNil)))) (sRaise (A 2)) sSkip)
theorem w_check_permutation {k : Nat} (T : Txt K mg A fd) {f_is_permutation : FS} (D_is_permutation : FnD P w K mg base k (A 6) (fd 6) ["value"] f_is_permutation) : FnD P w K mg base (k + 1) (A 7) (fd 7) ["p"] (runF N_check_permutation (m_check_permutation A f_is_permutation)) := by
  refine fn_def T.F_check_permutation sc_check_permutation fun cdv A_ outer s H E X hX hr tk hp => ?_
  subst hX
  exact (es_one (es_if (et_not (et_val (ev_call D_is_permutation hr tk T.m_is_permutation T.F_is_permutation.kp (b_is_permutation T) (ea_cons (ev_var 0) ea_nil) (lenA_cons lenA_nil)))) (es_one (es_raise rfl tk T.q_Malformed T.m_Malformed T.k_Malformed T.b_Malformed T.t_Malformed)) es_nil))
noncomputable def b_undone_0 : SS :=
      (sSub fSetL (mVar 1) (mVar 3) (mVar 2))
noncomputable def m_undone : SS :=
      (sSeq (sSet 1 (mNew (mMulD (mCons (mC (.int 0)) mNil) (mFn fLen (mCons (mVar 0) mNil)))))
      (sSeq (sFor (mEnum (mVar 0)) (gT (gsCons (gN 2) (gsCons (gN 3) gsNil))) b_undone_0)
      (sRet (mFn fTuple (mCons (mVar 1) mNil)))))
theorem w_undone {k : Nat} (T : Txt K mg A fd) : FnD P w K mg base (k + 1) (A 8) (fd 8) ["p"] (runF N_undone (m_undone)) := by
  refine fn_def T.F_undone sc_undone fun cdv A_ outer s H E X hX hr tk hp => ?_
  subst hX
  exact (es_cons (es_set 1 sc_undone.nd (ev_new (ef_mulD (ea_cons ev_int ea_nil) (lenA_cons lenA_nil) (ev_bf cs_len T.z_len PySem.boot_len (ea_cons (ev_var 0) ea_nil)))))
      (es_cons (es_for hp rfl (ei_enum T.z_enumerate (ev_var 0)) (eg_tup rfl (egs_cons (eg_name (vs := [2, 3]) 2 sc_undone.nd) (egs_cons (eg_name (vs := [2, 3]) 3 sc_undone.nd) egs_nil)) (lenG_cons (lenG_cons lenG_nil))) (es_one (es_sub (ev_var 1) (ev_var 3) (ev_var 2))))
      (es_one (es_ret (ev_bt cs_tuple T.z_tuple PyProof.Rows.boot_tuple (ea_cons (ev_var 1) ea_nil))))))
noncomputable def m_inverse_of (f_check_permutation : FS) (f_undone : FS) : SS :=
      (sSeq (sExpr (mCall f_check_permutation (mCons (mVar 0) mNil)))
      (sRet (mCall f_undone (mCons (mVar 0) mNil))))
theorem w_inverse_of {k : Nat} (T : Txt K mg A fd) {f_check_permutation : FS} (D_check_permutation : FnD P w K mg base k (A 7) (fd 7) ["p"] f_check_permutation) {f_undone : FS} (D_undone : FnD P w K mg base k (A 8) (fd 8) ["p"] f_undone) : FnD P w K mg base (k + 1) (A 9) (fd 9) ["p"] (runF N_inverse_of (m_inverse_of f_check_permutation f_undone)) := by
  refine fn_def T.F_inverse_of sc_inverse_of fun cdv A_ outer s H E X hX hr tk hp => ?_
  subst hX
  exact (es_cons (es_expr (ev_call D_check_permutation hr tk T.m_check_permutation T.F_check_permutation.kp (b_check_permutation T) (ea_cons (ev_var 0) ea_nil) (lenA_cons lenA_nil)))
      (es_one (es_ret (ev_call D_undone hr tk T.m_undone T.F_undone.kp (b_undone T) (ea_cons (ev_var 0) ea_nil) (lenA_cons lenA_nil)))))
noncomputable def b_letter_tables_0 (f_inverse_of : FS) : SS :=
      (sSeq (sSub fSetD (mVar 1) (mOp fAdd (mVar 2) (mC (.int 1))) (mVar 3))
      (sSub fSetD (mVar 1) (mOp fSub (mNeg (mVar 2)) (mC (.int 1))) (mCall f_inverse_of (mCons (mVar 3) mNil))))
noncomputable def m_letter_tables (f_inverse_of : FS) : SS :=
      (sSeq (sSet 1 mDNewK)
      (sSeq (sFor (mEnum (mOp fIx (mVar 0) (mC (.int 1)))) (gT (gsCons (gN 2) (gsCons (gN 3) gsNil))) (b_letter_tables_0 f_inverse_of))
      (sRet (mVar 1))))
theorem w_letter_tables {k : Nat} (T : Txt K mg A fd) {f_inverse_of : FS} (D_inverse_of : FnD P w K mg base k (A 9) (fd 9) ["p"] f_inverse_of) : FnD P w K mg base (k + 1) (A 23) (fd 23) ["S"] (runF N_letter_tables (m_letter_tables f_inverse_of)) := by
  refine fn_def T.F_letter_tables sc_letter_tables fun cdv A_ outer s H E X hX hr tk hp => ?_
  subst hX
  exact (es_cons (es_set 1 sc_letter_tables.nd ev_dnewK)
      (es_cons (es_for hp rfl (ei_enum T.z_enumerate (ev_ix (ev_var 0) ev_int)) (eg_tup rfl (egs_cons (eg_name (vs := [2, 3]) 2 sc_letter_tables.nd) (egs_cons (eg_name (vs := [2, 3]) 3 sc_letter_tables.nd) egs_nil)) (lenG_cons (lenG_cons lenG_nil))) (es_cons (es_dput (hu_of hr) (ev_var 1) (ev_op opS_add (ev_var 2) ev_int) (ev_var 3))
      (es_one (es_dput (hu_of hr) (ev_var 1) (ev_op opS_sub (ev_neg (ev_var 2)) ev_int) (ev_call D_inverse_of hr tk T.m_inverse_of T.F_inverse_of.kp (b_inverse_of T) (ea_cons (ev_var 3) ea_nil) (lenA_cons lenA_nil))))))
      (es_one (es_ret (ev_var 1)))))
noncomputable def m_walk_word (f_check_system : FS) (f_check_sheet : FS) (f_check_word : FS) (f_led_along : FS) (f_letter_tables : FS) : SS :=
      (sSeq (sExpr (mCall f_check_system (mCons (mVar 0) mNil)))
      (sSeq (sExpr (mCall f_check_sheet (mCons (mVar 1) (mCons (mVar 0) mNil))))
      (sSeq (sExpr (mCall f_check_word (mCons (mVar 2) (mCons (mFn fLen (mCons (mOp fIx (mVar 0) (mC (.int 1))) mNil)) mNil))))
      (sRet (mCall f_led_along (mCons (mCall f_letter_tables (mCons (mVar 0) mNil)) (mCons (mVar 1) (mCons (mVar 2) mNil))))))))
theorem w_walk_word {k : Nat} (T : Txt K mg A fd) {f_check_system : FS} (D_check_system : FnD P w K mg base k (A 15) (fd 15) ["S"] f_check_system) {f_check_sheet : FS} (D_check_sheet : FnD P w K mg base k (A 17) (fd 17) ["x", "S"] f_check_sheet) {f_check_word : FS} (D_check_word : FnD P w K mg base k (A 19) (fd 19) ["w", "k"] f_check_word) {f_led_along : FS} (D_led_along : FnD P w K mg base k (A 24) (fd 24) ["tables", "x", "w"] f_led_along) {f_letter_tables : FS} (D_letter_tables : FnD P w K mg base k (A 23) (fd 23) ["S"] f_letter_tables) : FnD P w K mg base (k + 1) (A 25) (fd 25) ["S", "x", "w"] (runF N_walk_word (m_walk_word f_check_system f_check_sheet f_check_word f_led_along f_letter_tables)) := by
  refine fn_def T.F_walk_word sc_walk_word fun cdv A_ outer s H E X hX hr tk hp => ?_
  subst hX
  exact (es_cons (es_expr (ev_call D_check_system hr tk T.m_check_system T.F_check_system.kp (b_check_system T) (ea_cons (ev_var 0) ea_nil) (lenA_cons lenA_nil)))
      (es_cons (es_expr (ev_call D_check_sheet hr tk T.m_check_sheet T.F_check_sheet.kp (b_check_sheet T) (ea_cons (ev_var 1) (ea_cons (ev_var 0) ea_nil)) (lenA_cons (lenA_cons lenA_nil))))
      (es_cons (es_expr (ev_call D_check_word hr tk T.m_check_word T.F_check_word.kp (b_check_word T) (ea_cons (ev_var 2) (ea_cons (ev_bf cs_len T.z_len PySem.boot_len (ea_cons (ev_ix (ev_var 0) ev_int) ea_nil)) ea_nil)) (lenA_cons (lenA_cons lenA_nil))))
      (es_one (es_ret (ev_call D_led_along hr tk T.m_led_along T.F_led_along.kp (b_led_along T) (ea_cons (ev_call D_letter_tables hr tk T.m_letter_tables T.F_letter_tables.kp (b_letter_tables T) (ea_cons (ev_var 0) ea_nil) (lenA_cons lenA_nil)) (ea_cons (ev_var 1) (ea_cons (ev_var 2) ea_nil))) (lenA_cons (lenA_cons (lenA_cons lenA_nil)))))))))
noncomputable def e_word_permutation_0 (f_led_along : FS) : SE :=
      (mCall f_led_along (mCons (mVar 2) (mCons (mVar 3) (mCons (mVar 1) mNil))))
noncomputable def m_word_permutation (f_check_system : FS) (f_check_word : FS) (f_letter_tables : FS) (f_led_along : FS) : SS :=
      (sSeq (sExpr (mCall f_check_system (mCons (mVar 0) mNil)))
      (sSeq (sExpr (mCall f_check_word (mCons (mVar 1) (mCons (mFn fLen (mCons (mOp fIx (mVar 0) (mC (.int 1))) mNil)) mNil))))
      (sSeq (sSet 2 (mCall f_letter_tables (mCons (mVar 0) mNil)))
      (sRet (mFn fTuple (mCons (mFrz (mComp (mRng1 (mOp fIx (mVar 0) (mC (.int 0)))) (gN 3) mYes (e_word_permutation_0 f_led_along) [3])) mNil))))))
theorem w_word_permutation {k : Nat} (T : Txt K mg A fd) {f_check_system : FS} (D_check_system : FnD P w K mg base k (A 15) (fd 15) ["S"] f_check_system) {f_check_word : FS} (D_check_word : FnD P w K mg base k (A 19) (fd 19) ["w", "k"] f_check_word) {f_letter_tables : FS} (D_letter_tables : FnD P w K mg base k (A 23) (fd 23) ["S"] f_letter_tables) {f_led_along : FS} (D_led_along : FnD P w K mg base k (A 24) (fd 24) ["tables", "x", "w"] f_led_along) : FnD P w K mg base (k + 1) (A 26) (fd 26) ["S", "w"] (runF N_word_permutation (m_word_permutation f_check_system f_check_word f_letter_tables f_led_along)) := by
  refine fn_def T.F_word_permutation sc_word_permutation fun cdv A_ outer s H E X hX hr tk hp => ?_
  subst hX
  exact (es_cons (es_expr (ev_call D_check_system hr tk T.m_check_system T.F_check_system.kp (b_check_system T) (ea_cons (ev_var 0) ea_nil) (lenA_cons lenA_nil)))
      (es_cons (es_expr (ev_call D_check_word hr tk T.m_check_word T.F_check_word.kp (b_check_word T) (ea_cons (ev_var 1) (ea_cons (ev_bf cs_len T.z_len PySem.boot_len (ea_cons (ev_ix (ev_var 0) ev_int) ea_nil)) ea_nil)) (lenA_cons (lenA_cons lenA_nil))))
      (es_cons (es_set 2 sc_word_permutation.nd (ev_call D_letter_tables hr tk T.m_letter_tables T.F_letter_tables.kp (b_letter_tables T) (ea_cons (ev_var 0) ea_nil) (lenA_cons lenA_nil)))
      (es_one (es_ret (ev_bt cs_tuple T.z_tuple PyProof.Rows.boot_tuple (ea_cons (ev_frz (ef_comp (own := [("x", 3)]) rfl sc_word_permutation.nd (ei_range1 T.z_range (ev_ix (ev_var 0) ev_int)) (blkOk_by (N := N_word_permutation) (sc := defScope s_word_permutation) (own := [("x", 3)]) (by decide +kernel)) (fun s_ H_ C_ cl_ fp_ => (eg_name (vs := _) 3 sc_word_permutation.nd)) (fun s_ H_ C_ cl_ fp_ => eif_nil) (fun s_ H_ C_ cl_ fp_ => (ev_call D_led_along hr takes_none5 T.m_led_along T.F_led_along.kp (b_led_along T) (ea_cons (ev_var 2) (ea_cons (ev_var 3) (ea_cons (ev_var 1) ea_nil))) (lenA_cons (lenA_cons (lenA_cons lenA_nil))))))) ea_nil)))))))
noncomputable def e_told_system_0 (f_led_along : FS) : SE :=
      (mCall f_led_along (mCons (mVar 2) (mCons (mVar 4) (mCons (mVar 3) mNil))))
noncomputable def e_told_system_1 (f_led_along : FS) : SE :=
      (mFn fTuple (mCons (mFrz (mComp (mRng1 (mOp fIx (mVar 0) (mC (.int 0)))) (gN 4) mYes (e_told_system_0 f_led_along) [4])) mNil))
noncomputable def e_told_system_2 (f_is_word : FS) : SE :=
      (mCall f_is_word (mCons (mVar 3) (mCons (mFn fLen (mCons (mOp fIx (mVar 0) (mC (.int 1))) mNil)) mNil)))
noncomputable def m_told_system (A : Nat → Addr) (f_check_system : FS) (f_letter_tables : FS) (f_is_word : FS) (f_led_along : FS) : SS :=
      (sSeq (sExpr (mCall f_check_system (mCons (mVar 0) mNil)))
      (sSeq (sIf (mOr (mNot (mB (mIsi (mVar 1) .tup))) (mOr (mB (mOp fGt (mFn fLen (mCons (mVar 1) mNil)) (mC (.int 12)))) (mNot (mB (mFn fAll (mCons (mFrz (mComp (mItems (mVar 1)) (gN 3) mYes (e_told_system_2 f_is_word) [3])) mNil)))))) (sRaise (A 2)) sSkip)
      (sSeq (sSet 2 (mCall f_letter_tables (mCons (mVar 0) mNil)))
      (sRet (mTup (mCons (mOp fIx (mVar 0) (mC (.int 0))) (mCons (mFn fTuple (mCons (mFrz (mComp (mItems (mVar 1)) (gN 3) mYes (e_told_system_1 f_led_along) [3])) mNil)) mNil)))))))
theorem w_told_system {k : Nat} (T : Txt K mg A fd) {f_check_system : FS} (D_check_system : FnD P w K mg base k (A 15) (fd 15) ["S"] f_check_system) {f_letter_tables : FS} (D_letter_tables : FnD P w K mg base k (A 23) (fd 23) ["S"] f_letter_tables) {f_is_word : FS} (D_is_word : FnD P w K mg base k (A 18) (fd 18) ["value", "k"] f_is_word) {f_led_along : FS} (D_led_along : FnD P w K mg base k (A 24) (fd 24) ["tables", "x", "w"] f_led_along) : FnD P w K mg base (k + 1) (A 27) (fd 27) ["S", "words"] (runF N_told_system (m_told_system A f_check_system f_letter_tables f_is_word f_led_along)) := by
  obtain ⟨t_MOST_RANK, c_MOST_RANK⟩ := T.c_MOST_RANK
  refine fn_def T.F_told_system sc_told_system fun cdv A_ outer s H E X hX hr tk hp => ?_
  subst hX
  exact (es_cons (es_expr (ev_call D_check_system hr tk T.m_check_system T.F_check_system.kp (b_check_system T) (ea_cons (ev_var 0) ea_nil) (lenA_cons lenA_nil)))
      (es_cons (es_if (et_of (ew_or (et_not (et_val (ev_isi .tup T.z_isinstance T.z_tuple PyProof.Rows.boot_tuple (ev_var 1)))) (ew_or (et_cmp opS_gt (ev_bf cs_len T.z_len PySem.boot_len (ea_cons (ev_var 1) ea_nil)) (ev_gint rfl c_MOST_RANK) (nomark _)) (ew_or1 (et_not (et_val (ev_bf (cs_all rfl) T.z_all PyProof.Rows.boot_all (ea_cons (ev_frz (ef_comp (own := [("w", 3)]) rfl sc_told_system.nd (ei_seq (ev_var 1)) (blkOk_by (N := N_told_system) (sc := defScope s_told_system) (own := [("w", 3)]) (by decide +kernel)) (fun s_ H_ C_ cl_ fp_ => (eg_name (vs := _) 3 sc_told_system.nd)) (fun s_ H_ C_ cl_ fp_ => eif_nil) (fun s_ H_ C_ cl_ fp_ => (ev_call D_is_word hr takes_none5 T.m_is_word T.F_is_word.kp (b_is_word T) (ea_cons (ev_var 3) (ea_cons (ev_bf cs_len T.z_len PySem.boot_len (ea_cons (ev_ix (ev_var 0) ev_int) ea_nil)) ea_nil)) (lenA_cons (lenA_cons lenA_nil)))))) ea_nil)))))))) (es_one (es_raise rfl tk T.q_Malformed T.m_Malformed T.k_Malformed T.b_Malformed T.t_Malformed)) es_nil)
      (es_cons (es_set 2 sc_told_system.nd (ev_call D_letter_tables hr tk T.m_letter_tables T.F_letter_tables.kp (b_letter_tables T) (ea_cons (ev_var 0) ea_nil) (lenA_cons lenA_nil)))
      (es_one (es_ret (ev_tup (ea_cons (ev_ix (ev_var 0) ev_int) (ea_cons (ev_bt cs_tuple T.z_tuple PyProof.Rows.boot_tuple (ea_cons (ev_frz (ef_comp (own := [("w", 3)]) rfl sc_told_system.nd (ei_seq (ev_var 1)) (blkOk_by (N := N_told_system) (sc := defScope s_told_system) (own := [("w", 3)]) (by decide +kernel)) (fun s_ H_ C_ cl_ fp_ => (eg_name (vs := _) 3 sc_told_system.nd)) (fun s_ H_ C_ cl_ fp_ => eif_nil) (fun s_ H_ C_ cl_ fp_ => (ev_bt cs_tuple T.z_tuple PyProof.Rows.boot_tuple (ea_cons (ev_frz (ef_comp (own := [("x", 4)]) rfl sc_told_system.nd (ei_range1 T.z_range (ev_ix (ev_var 0) ev_int)) (blkOk_by (by kernel_rfl)) (fun s_ H_ C_ cl_ fp_ => (eg_name (vs := _) 4 sc_told_system.nd)) (fun s_ H_ C_ cl_ fp_ => eif_nil) (fun s_ H_ C_ cl_ fp_ => (ev_call D_led_along hr takes_none5 T.m_led_along T.F_led_along.kp (b_led_along T) (ea_cons (ev_var 2) (ea_cons (ev_var 4) (ea_cons (ev_var 3) ea_nil))) (lenA_cons (lenA_cons (lenA_cons lenA_nil))))))) ea_nil))))) ea_nil)) ea_nil)) (lenA_cons (lenA_cons lenA_nil))))))))
noncomputable def m_law_told (A : Nat → Addr) (f_law_plain : FS) (f_is_word : FS) (f_inverse_word : FS) (f_reduced_word : FS) (f_walk_word : FS) (f_word_permutation : FS) (f_told_system : FS) : SS :=
      (sTry [A 2] (sSeq (sIf (mB (mOp fEq (mVar 0) (mC (.int 0)))) (sRet (mCall f_law_plain (mCons (mCall f_inverse_word (mCons (mVar 1) (mCons (mVar 2) mNil))) mNil))) sSkip)
      (sSeq (sIf (mB (mOp fEq (mVar 0) (mC (.int 1)))) (sRet (mCall f_law_plain (mCons (mCall f_reduced_word (mCons (mVar 1) (mCons (mVar 2) mNil))) mNil))) sSkip)
      (sSeq (sIf (mB (mOp fEq (mVar 0) (mC (.int 2)))) (sRet (mCall f_law_plain (mCons (mCall f_walk_word (mCons (mVar 1) (mCons (mVar 2) (mCons (mVar 3) mNil)))) mNil))) sSkip)
      (sSeq (sIf (mB (mOp fEq (mVar 0) (mC (.int 3)))) (sRet (mCall f_law_plain (mCons (mCall f_word_permutation (mCons (mVar 1) (mCons (mVar 2) mNil))) mNil))) sSkip)
      (sRet (mIf (mB (mOp fEq (mVar 0) (mC (.int 4)))) (mCall f_is_word (mCons (mVar 1) (mCons (mVar 2) mNil))) (mCall f_law_plain (mCons (mCall f_told_system (mCons (mVar 1) (mCons (mVar 2) mNil))) mNil)))))))) ((A 2, fun _ => (sRet (mTup (mCons (mC (.str "raised")) (mCons (mC (.str "malformed")) mNil))))) :: []))
theorem w_law_told {k : Nat} (T : Txt K mg A fd) {f_law_plain : FS} (D_law_plain : FnD P w K mg base k (A 30) (fd 30) ["value"] f_law_plain) {f_is_word : FS} (D_is_word : FnD P w K mg base k (A 18) (fd 18) ["value", "k"] f_is_word) {f_inverse_word : FS} (D_inverse_word : FnD P w K mg base k (A 21) (fd 21) ["w", "k"] f_inverse_word) {f_reduced_word : FS} (D_reduced_word : FnD P w K mg base k (A 22) (fd 22) ["w", "k"] f_reduced_word) {f_walk_word : FS} (D_walk_word : FnD P w K mg base k (A 25) (fd 25) ["S", "x", "w"] f_walk_word) {f_word_permutation : FS} (D_word_permutation : FnD P w K mg base k (A 26) (fd 26) ["S", "w"] f_word_permutation) {f_told_system : FS} (D_told_system : FnD P w K mg base k (A 27) (fd 27) ["S", "words"] f_told_system) : FnD P w K mg base (k + 1) (A 44) (fd 44) ["which", "a", "b", "c"] (runF N_law_told (m_law_told A f_law_plain f_is_word f_inverse_word f_reduced_word f_walk_word f_word_permutation f_told_system)) := by
  refine fn_def T.F_law_told sc_law_told fun cdv A_ outer s H E X hX hr tk hp => ?_
  subst hX
  exact (es_one (es_try (leafs := [A 2]) rfl rfl tk T.ap (fun W_ pn_ xe_ tk_ hp => (es_cons (es_if (et_cmp (opS_eq hr.units) (ev_var 0) ev_int (nomark _)) (es_one (es_ret (ev_call D_law_plain hr tk_ T.m_law_plain T.F_law_plain.kp (b_law_plain T) (ea_cons (ev_call D_inverse_word hr tk_ T.m_inverse_word T.F_inverse_word.kp (b_inverse_word T) (ea_cons (ev_var 1) (ea_cons (ev_var 2) ea_nil)) (lenA_cons (lenA_cons lenA_nil))) ea_nil) (lenA_cons lenA_nil)))) es_nil)
      (es_cons (es_if (et_cmp (opS_eq hr.units) (ev_var 0) ev_int (nomark _)) (es_one (es_ret (ev_call D_law_plain hr tk_ T.m_law_plain T.F_law_plain.kp (b_law_plain T) (ea_cons (ev_call D_reduced_word hr tk_ T.m_reduced_word T.F_reduced_word.kp (b_reduced_word T) (ea_cons (ev_var 1) (ea_cons (ev_var 2) ea_nil)) (lenA_cons (lenA_cons lenA_nil))) ea_nil) (lenA_cons lenA_nil)))) es_nil)
      (es_cons (es_if (et_cmp (opS_eq hr.units) (ev_var 0) ev_int (nomark _)) (es_one (es_ret (ev_call D_law_plain hr tk_ T.m_law_plain T.F_law_plain.kp (b_law_plain T) (ea_cons (ev_call D_walk_word hr tk_ T.m_walk_word T.F_walk_word.kp (b_walk_word T) (ea_cons (ev_var 1) (ea_cons (ev_var 2) (ea_cons (ev_var 3) ea_nil))) (lenA_cons (lenA_cons (lenA_cons lenA_nil)))) ea_nil) (lenA_cons lenA_nil)))) es_nil)
      (es_cons (es_if (et_cmp (opS_eq hr.units) (ev_var 0) ev_int (nomark _)) (es_one (es_ret (ev_call D_law_plain hr tk_ T.m_law_plain T.F_law_plain.kp (b_law_plain T) (ea_cons (ev_call D_word_permutation hr tk_ T.m_word_permutation T.F_word_permutation.kp (b_word_permutation T) (ea_cons (ev_var 1) (ea_cons (ev_var 2) ea_nil)) (lenA_cons (lenA_cons lenA_nil))) ea_nil) (lenA_cons lenA_nil)))) es_nil)
      (es_one (es_ret (ev_if (et_cmp (opS_eq hr.units) (ev_var 0) ev_int (nomark _)) (ev_call D_is_word hr tk_ T.m_is_word T.F_is_word.kp (b_is_word T) (ea_cons (ev_var 1) (ea_cons (ev_var 2) ea_nil)) (lenA_cons (lenA_cons lenA_nil))) (ev_call D_law_plain hr tk_ T.m_law_plain T.F_law_plain.kp (b_law_plain T) (ea_cons (ev_call D_told_system hr tk_ T.m_told_system T.F_told_system.kp (b_told_system T) (ea_cons (ev_var 1) (ea_cons (ev_var 2) ea_nil)) (lenA_cons (lenA_cons lenA_nil))) ea_nil) (lenA_cons lenA_nil)))))))))) (HsD.plain (c := A 2) (ts := fun _ _ _ => tSt K W0 (sRet (mTup (mCons (mC (.str "raised")) (mCons (mC (.str "malformed")) mNil))))) (by simp) ⟨rfl, by decide, Or.inl T.m_Malformed⟩ (fun _ _ _ _ _ _ _ => (es_one (es_ret (ev_tup (ea_cons ev_str (ea_cons ev_str ea_nil)) (lenA_cons (lenA_cons lenA_nil)))))) (serves_plain (fun _ _ _ _ _ h_ => Rt.noConfusion h_)) HsD.nil)))
noncomputable def e_law_bad_hold_0 (f_law_told : FS) : SE :=
      (mCall f_law_told (mCons (mC (.int 5)) (mCons (mVar 0) (mCons (mVar 4) (mCons (mC (.int 0)) mNil)))))
noncomputable def b_law_bad_hold_0 (f_law_told : FS) : SS :=
      (sIf (mB (mOp fNe (mCall f_law_told (mCons (mC (.int 2)) (mCons (mVar 0) (mCons (mVar 7) (mCons (mVar 1) mNil))))) (mTup (mCons (mC (.str "raised")) (mCons (mC (.str "malformed")) mNil))))) (sRet (mC (.bl false))) sSkip)
noncomputable def e_law_bad_hold_1 (f_law_told : FS) : SE :=
      (mCall f_law_told (mCons (mVar 8) (mCons (mTup mNil) (mCons (mVar 6) (mCons (mC (.int 0)) mNil)))))
noncomputable def b_law_bad_hold_1 (f_law_told : FS) : SS :=
      (sIf (mB (mOp fNe (mFrz (mComp (mItems (mTup (mCons (mC (.int 0)) (mCons (mC (.int 1)) (mCons (mC (.int 4)) mNil))))) (gN 8) mYes (e_law_bad_hold_1 f_law_told) [8])) (mFrz (mMulD (mCons (mTup (mCons (mC (.str "raised")) (mCons (mC (.str "malformed")) mNil))) mNil) (mC (.int 3)))))) (sRet (mC (.bl false))) sSkip)
noncomputable def b_law_bad_hold_2 (f_law_says : FS) (f_is_word : FS) (f_law_is_word : FS) (f_law_told : FS) : SS :=
      (sSeq (sIf (mNot (mB (mCall f_law_says (mCons (mCall f_is_word (mCons (mVar 4) (mCons (mVar 2) mNil))) (mCons (mCall f_law_is_word (mCons (mVar 4) (mCons (mVar 2) mNil))) mNil))))) (sRet (mC (.bl false))) sSkip)
      (sIf (mNot (mB (mCall f_law_is_word (mCons (mVar 4) (mCons (mVar 2) mNil))))) (sSeq (sSet 5 (mFrz (mCons (mCall f_law_told (mCons (mC (.int 0)) (mCons (mVar 4) (mCons (mVar 2) (mCons (mC (.int 0)) mNil))))) (mCons (mCall f_law_told (mCons (mC (.int 1)) (mCons (mVar 4) (mCons (mVar 2) (mCons (mC (.int 0)) mNil))))) (mCons (mCall f_law_told (mCons (mC (.int 2)) (mCons (mVar 0) (mCons (mC (.int 0)) (mCons (mVar 4) mNil))))) (mCons (mCall f_law_told (mCons (mC (.int 3)) (mCons (mVar 0) (mCons (mVar 4) (mCons (mC (.int 0)) mNil))))) (mCons (mCall f_law_told (mCons (mC (.int 5)) (mCons (mVar 0) (mCons (mTup (mCons (mVar 4) mNil)) (mCons (mC (.int 0)) mNil))))) mNil)))))))
      (sIf (mB (mOp fNe (mVar 5) (mFrz (mMulD (mCons (mTup (mCons (mC (.str "raised")) (mCons (mC (.str "malformed")) mNil))) mNil) (mC (.int 5)))))) (sRet (mC (.bl false))) sSkip)) sSkip))
noncomputable def m_law_bad_hold (f_law_says : FS) (f_law_is_word : FS) (f_law_told : FS) (f_is_word : FS) : SS :=
      (sSeq (sSet 3 (mFrz (mCons (mC .non) (mCons (mC (.int 5)) (mCons (mFrz (mFn fList (mCons (mVar 1) mNil))) (mCons (mOp fAdd (mVar 1) (mTup (mCons (mC (.int 0)) mNil))) (mCons (mOp fAdd (mVar 1) (mTup (mCons (mOp fAdd (mVar 2) (mC (.int 1))) mNil))) (mCons (mOp fAdd (mVar 1) (mTup (mCons (mOp fSub (mNeg (mVar 2)) (mC (.int 1))) mNil))) (mCons (mOp fAdd (mVar 1) (mTup (mCons (mC (.bl true)) mNil))) (mCons (mOp fAdd (mVar 1) (mTup (mCons (mC (.str "1")) mNil))) (mCons (mC (.str "1")) (mCons (mTup (mCons (mC .non) mNil)) (mCons (mOp fMul (mTup (mCons (mC (.int 1)) mNil)) (mC (.int 2001))) mNil)))))))))))))
      (sSeq (sFor (mItems (mVar 3)) (gN 4) (b_law_bad_hold_2 f_law_says f_is_word f_law_is_word f_law_told))
      (sSeq (sFor (mItems (mFrz (mCons (mNeg (mC (.int 1))) (mCons (mC (.int 13)) (mCons (mC .non) (mCons (mC (.bl true)) (mCons (mC (.str "2")) mNil))))))) (gN 6) (b_law_bad_hold_1 f_law_told))
      (sSeq (sFor (mItems (mFrz (mCons (mNeg (mC (.int 1))) (mCons (mOp fIx (mVar 0) (mC (.int 0))) (mCons (mC .non) (mCons (mC (.bl true)) (mCons (mC (.str "0")) mNil))))))) (gN 7) (b_law_bad_hold_0 f_law_told))
      (sRet (mOp fEq (mFrz (mComp (mItems (mFrz (mCons (mC .non) (mCons (mFrz (mFn fList (mCons (mTup (mCons (mVar 1) mNil)) mNil))) (mCons (mOp fMul (mTup (mCons (mVar 1) mNil)) (mC (.int 13))) (mCons (mC (.int 5)) mNil)))))) (gN 4) mYes (e_law_bad_hold_0 f_law_told) [4])) (mFrz (mMulD (mCons (mTup (mCons (mC (.str "raised")) (mCons (mC (.str "malformed")) mNil))) mNil) (mC (.int 4))))))))))
theorem w_law_bad_hold {k : Nat} (T : Txt K mg A fd) {f_law_says : FS} (D_law_says : FnD P w K mg base k (A 33) (fd 33) ["value", "due"] f_law_says) {f_law_is_word : FS} (D_law_is_word : FnD P w K mg base k (A 35) (fd 35) ["value", "k"] f_law_is_word) {f_law_told : FS} (D_law_told : FnD P w K mg base k (A 44) (fd 44) ["which", "a", "b", "c"] f_law_told) {f_is_word : FS} (D_is_word : FnD P w K mg base k (A 18) (fd 18) ["value", "k"] f_is_word) : FnD P w K mg base (k + 1) (A 47) (fd 47) ["S", "w", "k"] (runF N_law_bad_hold (m_law_bad_hold f_law_says f_law_is_word f_law_told f_is_word)) := by
  refine fn_def T.F_law_bad_hold sc_law_bad_hold fun cdv A_ outer s H E X hX hr tk hp => ?_
  subst hX
  exact (es_cons (es_set 3 sc_law_bad_hold.nd (ev_frz (ef_lst (ea_cons ev_non (ea_cons ev_int (ea_cons (ev_frz (ev_bt cs_list T.z_list PyProof.Rows.boot_list (ea_cons (ev_var 1) ea_nil))) (ea_cons (ev_op opS_add (ev_var 1) (ev_tup (ea_cons ev_int ea_nil) (lenA_cons lenA_nil))) (ea_cons (ev_op opS_add (ev_var 1) (ev_tup (ea_cons (ev_op opS_add (ev_var 2) ev_int) ea_nil) (lenA_cons lenA_nil))) (ea_cons (ev_op opS_add (ev_var 1) (ev_tup (ea_cons (ev_op opS_sub (ev_neg (ev_var 2)) ev_int) ea_nil) (lenA_cons lenA_nil))) (ea_cons (ev_op opS_add (ev_var 1) (ev_tup (ea_cons ev_bl ea_nil) (lenA_cons lenA_nil))) (ea_cons (ev_op opS_add (ev_var 1) (ev_tup (ea_cons ev_str ea_nil) (lenA_cons lenA_nil))) (ea_cons ev_str (ea_cons (ev_tup (ea_cons ev_non ea_nil) (lenA_cons lenA_nil)) (ea_cons (ev_op opS_mul (ev_tup (ea_cons ev_int ea_nil) (lenA_cons lenA_nil)) ev_int) ea_nil))))))))))) (lenA_cons (lenA_cons (lenA_cons (lenA_cons (lenA_cons (lenA_cons (lenA_cons (lenA_cons (lenA_cons (lenA_cons (lenA_cons lenA_nil))))))))))))))
      (es_cons (es_for hp rfl (ei_seq (ev_var 3)) (eg_name (vs := [4]) 4 sc_law_bad_hold.nd) (es_cons (es_if (et_not (et_val (ev_call D_law_says hr tk T.m_law_says T.F_law_says.kp (b_law_says T) (ea_cons (ev_call D_is_word hr tk T.m_is_word T.F_is_word.kp (b_is_word T) (ea_cons (ev_var 4) (ea_cons (ev_var 2) ea_nil)) (lenA_cons (lenA_cons lenA_nil))) (ea_cons (ev_call D_law_is_word hr tk T.m_law_is_word T.F_law_is_word.kp (b_law_is_word T) (ea_cons (ev_var 4) (ea_cons (ev_var 2) ea_nil)) (lenA_cons (lenA_cons lenA_nil))) ea_nil)) (lenA_cons (lenA_cons lenA_nil))))) (es_one (es_ret ev_bl)) es_nil)
      (es_one (es_if (et_not (et_val (ev_call D_law_is_word hr tk T.m_law_is_word T.F_law_is_word.kp (b_law_is_word T) (ea_cons (ev_var 4) (ea_cons (ev_var 2) ea_nil)) (lenA_cons (lenA_cons lenA_nil))))) (es_cons (es_set 5 sc_law_bad_hold.nd (ev_frz (ef_lst (ea_cons (ev_call D_law_told hr tk T.m_law_told T.F_law_told.kp (b_law_told T) (ea_cons ev_int (ea_cons (ev_var 4) (ea_cons (ev_var 2) (ea_cons ev_int ea_nil)))) (lenA_cons (lenA_cons (lenA_cons (lenA_cons lenA_nil))))) (ea_cons (ev_call D_law_told hr tk T.m_law_told T.F_law_told.kp (b_law_told T) (ea_cons ev_int (ea_cons (ev_var 4) (ea_cons (ev_var 2) (ea_cons ev_int ea_nil)))) (lenA_cons (lenA_cons (lenA_cons (lenA_cons lenA_nil))))) (ea_cons (ev_call D_law_told hr tk T.m_law_told T.F_law_told.kp (b_law_told T) (ea_cons ev_int (ea_cons (ev_var 0) (ea_cons ev_int (ea_cons (ev_var 4) ea_nil)))) (lenA_cons (lenA_cons (lenA_cons (lenA_cons lenA_nil))))) (ea_cons (ev_call D_law_told hr tk T.m_law_told T.F_law_told.kp (b_law_told T) (ea_cons ev_int (ea_cons (ev_var 0) (ea_cons (ev_var 4) (ea_cons ev_int ea_nil)))) (lenA_cons (lenA_cons (lenA_cons (lenA_cons lenA_nil))))) (ea_cons (ev_call D_law_told hr tk T.m_law_told T.F_law_told.kp (b_law_told T) (ea_cons ev_int (ea_cons (ev_var 0) (ea_cons (ev_tup (ea_cons (ev_var 4) ea_nil) (lenA_cons lenA_nil)) (ea_cons ev_int ea_nil)))) (lenA_cons (lenA_cons (lenA_cons (lenA_cons lenA_nil))))) ea_nil))))) (lenA_cons (lenA_cons (lenA_cons (lenA_cons (lenA_cons lenA_nil))))))))
      (es_one (es_if (et_cmp (opS_ne hr.units) (ev_var 5) (ev_frz (ef_mulD (ea_cons (ev_tup (ea_cons ev_str (ea_cons ev_str ea_nil)) (lenA_cons (lenA_cons lenA_nil))) ea_nil) (lenA_cons lenA_nil) ev_int)) (nomark _)) (es_one (es_ret ev_bl)) es_nil))) es_nil))))
      (es_cons (es_for hp rfl (ei_seq (ev_frz (ef_lst (ea_cons (ev_neg ev_int) (ea_cons ev_int (ea_cons ev_non (ea_cons ev_bl (ea_cons ev_str ea_nil))))) (lenA_cons (lenA_cons (lenA_cons (lenA_cons (lenA_cons lenA_nil)))))))) (eg_name (vs := [6]) 6 sc_law_bad_hold.nd) (es_one (es_if (et_cmp (opS_ne hr.units) (ev_frz (ef_comp (own := [("which", 8)]) rfl sc_law_bad_hold.nd (ei_seq (ev_tup (ea_cons ev_int (ea_cons ev_int (ea_cons ev_int ea_nil))) (lenA_cons (lenA_cons (lenA_cons lenA_nil))))) (blkOk_by (N := N_law_bad_hold) (sc := defScope s_law_bad_hold) (own := [("which", 8)]) (by decide +kernel)) (fun s_ H_ C_ cl_ fp_ => (eg_name (vs := _) 8 sc_law_bad_hold.nd)) (fun s_ H_ C_ cl_ fp_ => eif_nil) (fun s_ H_ C_ cl_ fp_ => (ev_call D_law_told hr takes_none5 T.m_law_told T.F_law_told.kp (b_law_told T) (ea_cons (ev_var 8) (ea_cons (ev_tup ea_nil lenA_nil) (ea_cons (ev_var 6) (ea_cons ev_int ea_nil)))) (lenA_cons (lenA_cons (lenA_cons (lenA_cons lenA_nil)))))))) (ev_frz (ef_mulD (ea_cons (ev_tup (ea_cons ev_str (ea_cons ev_str ea_nil)) (lenA_cons (lenA_cons lenA_nil))) ea_nil) (lenA_cons lenA_nil) ev_int)) (nomark _)) (es_one (es_ret ev_bl)) es_nil)))
      (es_cons (es_for hp rfl (ei_seq (ev_frz (ef_lst (ea_cons (ev_neg ev_int) (ea_cons (ev_ix (ev_var 0) ev_int) (ea_cons ev_non (ea_cons ev_bl (ea_cons ev_str ea_nil))))) (lenA_cons (lenA_cons (lenA_cons (lenA_cons (lenA_cons lenA_nil)))))))) (eg_name (vs := [7]) 7 sc_law_bad_hold.nd) (es_one (es_if (et_cmp (opS_ne hr.units) (ev_call D_law_told hr tk T.m_law_told T.F_law_told.kp (b_law_told T) (ea_cons ev_int (ea_cons (ev_var 0) (ea_cons (ev_var 7) (ea_cons (ev_var 1) ea_nil)))) (lenA_cons (lenA_cons (lenA_cons (lenA_cons lenA_nil))))) (ev_tup (ea_cons ev_str (ea_cons ev_str ea_nil)) (lenA_cons (lenA_cons lenA_nil))) (nomark _)) (es_one (es_ret ev_bl)) es_nil)))
      (es_one (es_ret (ev_cmp (opS_eq hr.units) (ev_frz (ef_comp (own := [("value", 4)]) rfl sc_law_bad_hold.nd (ei_seq (ev_frz (ef_lst (ea_cons ev_non (ea_cons (ev_frz (ev_bt cs_list T.z_list PyProof.Rows.boot_list (ea_cons (ev_tup (ea_cons (ev_var 1) ea_nil) (lenA_cons lenA_nil)) ea_nil))) (ea_cons (ev_op opS_mul (ev_tup (ea_cons (ev_var 1) ea_nil) (lenA_cons lenA_nil)) ev_int) (ea_cons ev_int ea_nil)))) (lenA_cons (lenA_cons (lenA_cons (lenA_cons lenA_nil))))))) (blkOk_by (N := N_law_bad_hold) (sc := defScope s_law_bad_hold) (own := [("value", 4)]) (by decide +kernel)) (fun s_ H_ C_ cl_ fp_ => (eg_name (vs := _) 4 sc_law_bad_hold.nd)) (fun s_ H_ C_ cl_ fp_ => eif_nil) (fun s_ H_ C_ cl_ fp_ => (ev_call D_law_told hr takes_none5 T.m_law_told T.F_law_told.kp (b_law_told T) (ea_cons ev_int (ea_cons (ev_var 0) (ea_cons (ev_var 4) (ea_cons ev_int ea_nil)))) (lenA_cons (lenA_cons (lenA_cons (lenA_cons lenA_nil)))))))) (ev_frz (ef_mulD (ea_cons (ev_tup (ea_cons ev_str (ea_cons ev_str ea_nil)) (lenA_cons (lenA_cons lenA_nil))) ea_nil) (lenA_cons lenA_nil) ev_int)) (nomark _))))))))
noncomputable def b_law_letters_0 : SS :=
      (sSet 1 (mNew (mCatLF (mVar 1) (mCons (mVar 2) (mCons (mNeg (mVar 2)) mNil)))))
noncomputable def m_law_letters : SS :=
      (sSeq (sSet 1 (mNew mNil))
      (sSeq (sFor (mRng2 (mC (.int 1)) (mOp fAdd (mVar 0) (mC (.int 1)))) (gN 2) b_law_letters_0)
      (sRet (mVar 1))))
theorem w_law_letters {k : Nat} (T : Txt K mg A fd) : FnD P w K mg base (k + 1) (A 39) (fd 39) ["k"] (runF N_law_letters (m_law_letters)) := by
  refine fn_def T.F_law_letters sc_law_letters fun cdv A_ outer s H E X hX hr tk hp => ?_
  subst hX
  exact (es_cons (es_set 1 sc_law_letters.nd (ev_new (ef_lst ea_nil lenA_nil)))
      (es_cons (es_for hp rfl (ei_range2 T.z_range ev_int (ev_op opS_add (ev_var 0) ev_int)) (eg_name (vs := [2]) 2 sc_law_letters.nd) (es_one (es_set 1 sc_law_letters.nd (ev_new (ef_catLF (ev_var 1) (ef_lst (ea_cons (ev_var 2) (ea_cons (ev_neg (ev_var 2)) ea_nil)) (lenA_cons (lenA_cons lenA_nil))))))))
      (es_one (es_ret (ev_var 1)))))
noncomputable def e_law_word_0 (f_law_take : FS) : SE :=
      (mOp fIx (mVar 3) (mCall f_law_take (mCons (mVar 0) (mCons (mOp fMul (mC (.int 2)) (mVar 1)) mNil))))
noncomputable def m_law_word (f_law_letters : FS) (f_law_take : FS) : SS :=
      (sSeq (sIf (mB (mOp fEq (mVar 1) (mC (.int 0)))) (sRet (mTup mNil)) sSkip)
      (sSeq (sSet 3 (mCall f_law_letters (mCons (mVar 1) mNil)))
      (sRet (mFn fTuple (mCons (mFrz (mComp (mRng1 (mCall f_law_take (mCons (mVar 0) (mCons (mOp fAdd (mVar 2) (mC (.int 1))) mNil)))) (gN 4) mYes (e_law_word_0 f_law_take) [4])) mNil)))))
theorem w_law_word {k : Nat} (T : Txt K mg A fd) {f_law_letters : FS} (D_law_letters : FnD P w K mg base k (A 39) (fd 39) ["k"] f_law_letters) {f_law_take : FS} (D_law_take : FnD P w K mg base k (A 32) (fd 32) ["state", "m"] f_law_take) : FnD P w K mg base (k + 1) (A 40) (fd 40) ["state", "k", "most"] (runF N_law_word (m_law_word f_law_letters f_law_take)) := by
  refine fn_def T.F_law_word sc_law_word fun cdv A_ outer s H E X hX hr tk hp => ?_
  subst hX
  exact (es_cons (es_if (et_cmp (opS_eq hr.units) (ev_var 1) ev_int (nomark _)) (es_one (es_ret (ev_tup ea_nil lenA_nil))) es_nil)
      (es_cons (es_set 3 sc_law_word.nd (ev_call D_law_letters hr tk T.m_law_letters T.F_law_letters.kp (b_law_letters T) (ea_cons (ev_var 1) ea_nil) (lenA_cons lenA_nil)))
      (es_one (es_ret (ev_bt cs_tuple T.z_tuple PyProof.Rows.boot_tuple (ea_cons (ev_frz (ef_comp (own := [("turn", 4)]) rfl sc_law_word.nd (ei_range1 T.z_range (ev_call D_law_take hr tk T.m_law_take T.F_law_take.kp (b_law_take T) (ea_cons (ev_var 0) (ea_cons (ev_op opS_add (ev_var 2) ev_int) ea_nil)) (lenA_cons (lenA_cons lenA_nil)))) (blkOk_by (N := N_law_word) (sc := defScope s_law_word) (own := [("turn", 4)]) (by decide +kernel)) (fun s_ H_ C_ cl_ fp_ => (eg_name (vs := _) 4 sc_law_word.nd)) (fun s_ H_ C_ cl_ fp_ => eif_nil) (fun s_ H_ C_ cl_ fp_ => (ev_ix (ev_var 3) (ev_call D_law_take hr takes_none5 T.m_law_take T.F_law_take.kp (b_law_take T) (ea_cons (ev_var 0) (ea_cons (ev_op opS_mul ev_int (ev_var 1)) ea_nil)) (lenA_cons (lenA_cons lenA_nil))))))) ea_nil))))))
noncomputable def c_law_reduced_0 : SB :=
      (mB (mOp fGe (mVar 2) (mC (.int 0))))
noncomputable def b_law_reduced_0 : SS :=
      (sSeq (sIf (mAnd (mB (mOp fLt (mOp fAdd (mVar 2) (mC (.int 1))) (mFn fLen (mCons (mVar 1) mNil)))) (mB (mOp fEq (mOp fIx (mVar 1) (mVar 2)) (mNeg (mOp fIx (mVar 1) (mOp fAdd (mVar 2) (mC (.int 1)))))))) (sSet 1 (mFrz (mCatFF (mSlL (mVar 1) mNoPart (mPart (mVar 2))) (mSlL (mVar 1) (mPart (mOp fAdd (mVar 2) (mC (.int 2)))) mNoPart)))) sSkip)
      (sSet 2 (mOp fSub (mVar 2) (mC (.int 1)))))
noncomputable def m_law_reduced : SS :=
      (sSeq (sSet 1 (mFrz (mFn fList (mCons (mVar 0) mNil))))
      (sSeq (sSet 2 (mOp fSub (mFn fLen (mCons (mVar 1) mNil)) (mC (.int 2))))
      (sSeq (sWhile c_law_reduced_0 b_law_reduced_0)
      (sRet (mFn fTuple (mCons (mVar 1) mNil))))))
theorem w_law_reduced {k : Nat} (T : Txt K mg A fd) : FnD P w K mg base (k + 1) (A 45) (fd 45) ["w"] (runF N_law_reduced (m_law_reduced)) := by
  refine fn_def T.F_law_reduced sc_law_reduced fun cdv A_ outer s H E X hX hr tk hp => ?_
  subst hX
  exact (es_cons (es_set 1 sc_law_reduced.nd (ev_frz (ev_bt cs_list T.z_list PyProof.Rows.boot_list (ea_cons (ev_var 0) ea_nil))))
      (es_cons (es_set 2 sc_law_reduced.nd (ev_op opS_sub (ev_bf cs_len T.z_len PySem.boot_len (ea_cons (ev_var 1) ea_nil)) ev_int))
      (es_cons (es_while hp (et_cmp opS_ge (ev_var 2) ev_int (nomark _)) (es_cons (es_if (et_of (ew_and (et_cmp opS_lt (ev_op opS_add (ev_var 2) ev_int) (ev_bf cs_len T.z_len PySem.boot_len (ea_cons (ev_var 1) ea_nil)) (nomark _)) (ew_and1 (et_cmp (opS_eq hr.units) (ev_ix (ev_var 1) (ev_var 2)) (ev_neg (ev_ix (ev_var 1) (ev_op opS_add (ev_var 2) ev_int))) (nomark _))))) (es_one (es_set 1 sc_law_reduced.nd (ev_frz (ef_catFF (ef_sl (ev_var 1) eo_none (eo_some (ev_var 2))) (ef_sl (ev_var 1) (eo_some (ev_op opS_add (ev_var 2) ev_int)) eo_none))))) es_nil)
      (es_one (es_set 2 sc_law_reduced.nd (ev_op opS_sub (ev_var 2) ev_int)))))
      (es_one (es_ret (ev_bt cs_tuple T.z_tuple PyProof.Rows.boot_tuple (ea_cons (ev_var 1) ea_nil)))))))
noncomputable def c_law_whole_reduced_0 (f_law_reduced : FS) : SB :=
      (mB (mOp fNe (mCall f_law_reduced (mCons (mVar 0) mNil)) (mVar 0)))
noncomputable def b_law_whole_reduced_0 (f_law_reduced : FS) : SS :=
      (sSet 0 (mCall f_law_reduced (mCons (mVar 0) mNil)))
noncomputable def m_law_whole_reduced (f_law_reduced : FS) : SS :=
      (sSeq (sWhile (c_law_whole_reduced_0 f_law_reduced) (b_law_whole_reduced_0 f_law_reduced))
      (sRet (mVar 0)))
theorem w_law_whole_reduced {k : Nat} (T : Txt K mg A fd) {f_law_reduced : FS} (D_law_reduced : FnD P w K mg base k (A 45) (fd 45) ["w"] f_law_reduced) : FnD P w K mg base (k + 1) (A 46) (fd 46) ["w"] (runF N_law_whole_reduced (m_law_whole_reduced f_law_reduced)) := by
  refine fn_def T.F_law_whole_reduced sc_law_whole_reduced fun cdv A_ outer s H E X hX hr tk hp => ?_
  subst hX
  exact (es_cons (es_while hp (et_cmp (opS_ne hr.units) (ev_call D_law_reduced hr tk T.m_law_reduced T.F_law_reduced.kp (b_law_reduced T) (ea_cons (ev_var 0) ea_nil) (lenA_cons lenA_nil)) (ev_var 0) (nomark _)) (es_one (es_set 0 sc_law_whole_reduced.nd (ev_call D_law_reduced hr tk T.m_law_reduced T.F_law_reduced.kp (b_law_reduced T) (ea_cons (ev_var 0) ea_nil) (lenA_cons lenA_nil)))))
      (es_one (es_ret (ev_var 0))))
noncomputable def m_law_step (f_law_inverse : FS) : SS :=
      (sSeq (sSet 3 (mOp fIx (mOp fIx (mVar 0) (mC (.int 1))) (mOp fSub (mFn fAbs (mCons (mVar 2) mNil)) (mC (.int 1)))))
      (sRet (mIf (mB (mOp fGt (mVar 2) (mC (.int 0)))) (mOp fIx (mVar 3) (mVar 1)) (mOp fIx (mCall f_law_inverse (mCons (mVar 3) mNil)) (mVar 1)))))
theorem w_law_step {k : Nat} (T : Txt K mg A fd) {f_law_inverse : FS} (D_law_inverse : FnD P w K mg base k (A 36) (fd 36) ["p"] f_law_inverse) : FnD P w K mg base (k + 1) (A 41) (fd 41) ["S", "x", "i"] (runF N_law_step (m_law_step f_law_inverse)) := by
  refine fn_def T.F_law_step sc_law_step fun cdv A_ outer s H E X hX hr tk hp => ?_
  subst hX
  exact (es_cons (es_set 3 sc_law_step.nd (ev_ix (ev_ix (ev_var 0) ev_int) (ev_op opS_sub (ev_bf cs_abs T.z_abs PyProof.Rows.boot_abs (ea_cons (ev_var 2) ea_nil)) ev_int)))
      (es_one (es_ret (ev_if (et_cmp opS_gt (ev_var 2) ev_int (nomark _)) (ev_ix (ev_var 3) (ev_var 1)) (ev_ix (ev_call D_law_inverse hr tk T.m_law_inverse T.F_law_inverse.kp (b_law_inverse T) (ea_cons (ev_var 3) ea_nil) (lenA_cons lenA_nil)) (ev_var 1))))))
noncomputable def b_law_walk_0 (f_law_step : FS) : SS :=
      (sSet 1 (mCall f_law_step (mCons (mVar 0) (mCons (mVar 1) (mCons (mVar 3) mNil)))))
noncomputable def m_law_walk (f_law_step : FS) : SS :=
      (sSeq (sFor (mItems (mVar 2)) (gN 3) (b_law_walk_0 f_law_step))
      (sRet (mVar 1)))
theorem w_law_walk {k : Nat} (T : Txt K mg A fd) {f_law_step : FS} (D_law_step : FnD P w K mg base k (A 41) (fd 41) ["S", "x", "i"] f_law_step) : FnD P w K mg base (k + 1) (A 42) (fd 42) ["S", "x", "w"] (runF N_law_walk (m_law_walk f_law_step)) := by
  refine fn_def T.F_law_walk sc_law_walk fun cdv A_ outer s H E X hX hr tk hp => ?_
  subst hX
  exact (es_cons (es_for hp rfl (ei_seq (ev_var 2)) (eg_name (vs := [3]) 3 sc_law_walk.nd) (es_one (es_set 1 sc_law_walk.nd (ev_call D_law_step hr tk T.m_law_step T.F_law_step.kp (b_law_step T) (ea_cons (ev_var 0) (ea_cons (ev_var 1) (ea_cons (ev_var 3) ea_nil))) (lenA_cons (lenA_cons (lenA_cons lenA_nil)))))))
      (es_one (es_ret (ev_var 1))))
noncomputable def e_law_product_0 : SE :=
      (mOp fIx (mVar 1) (mVar 2))
noncomputable def m_law_product : SS :=
      (sRet (mFn fTuple (mCons (mFrz (mComp (mItems (mVar 0)) (gN 2) mYes e_law_product_0 [2])) mNil)))
theorem w_law_product {k : Nat} (T : Txt K mg A fd) : FnD P w K mg base (k + 1) (A 43) (fd 43) ["p", "q"] (runF N_law_product (m_law_product)) := by
  refine fn_def T.F_law_product sc_law_product fun cdv A_ outer s H E X hX hr tk hp => ?_
  subst hX
  exact (es_one (es_ret (ev_bt cs_tuple T.z_tuple PyProof.Rows.boot_tuple (ea_cons (ev_frz (ef_comp (own := [("y", 2)]) rfl sc_law_product.nd (ei_seq (ev_var 0)) (blkOk_by (N := N_law_product) (sc := defScope s_law_product) (own := [("y", 2)]) (by decide +kernel)) (fun s_ H_ C_ cl_ fp_ => (eg_name (vs := _) 2 sc_law_product.nd)) (fun s_ H_ C_ cl_ fp_ => eif_nil) (fun s_ H_ C_ cl_ fp_ => (ev_ix (ev_var 1) (ev_var 2))))) ea_nil))))
noncomputable def b_law_0 (f_law_told : FS) : SS :=
      (sIf (mB (mOp fNe (mFrz (mCons (mCall f_law_told (mCons (mC (.int 2)) (mCons (mVar 13) (mCons (mC (.int 0)) (mCons (mTup mNil) mNil))))) (mCons (mCall f_law_told (mCons (mC (.int 3)) (mCons (mVar 13) (mCons (mTup mNil) (mCons (mC (.int 0)) mNil))))) (mCons (mCall f_law_told (mCons (mC (.int 5)) (mCons (mVar 13) (mCons (mTup mNil) (mCons (mC (.int 0)) mNil))))) mNil)))) (mFrz (mMulD (mCons (mTup (mCons (mC (.str "raised")) (mCons (mC (.str "malformed")) mNil))) mNil) (mC (.int 3)))))) (sRet (mC (.bl false))) sSkip)
noncomputable def e_law_0 : SE :=
      (mNeg (mVar 14))
noncomputable def e_law_1 : SE :=
      (mNeg (mVar 14))
noncomputable def e_law_2 (f_law_take : FS) : SE :=
      (mOp fAdd (mC (.int 1)) (mCall f_law_take (mCons (mVar 1) (mCons (mVar 3) mNil))))
noncomputable def e_law_3 (f_law_walk : FS) : SE :=
      (mCall f_law_walk (mCons (mVar 4) (mCons (mVar 15) (mCons (mVar 17) mNil))))
noncomputable def e_law_4 (f_law_walk : FS) : SE :=
      (mFn fTuple (mCons (mFrz (mComp (mRng1 (mVar 2)) (gN 15) mYes (e_law_3 f_law_walk) [15])) mNil))
noncomputable def e_law_5 (f_law_word : FS) : SE :=
      (mCall f_law_word (mCons (mVar 1) (mCons (mVar 3) (mCons (mC (.int 6)) mNil))))
noncomputable def e_law_6 (f_law_told : FS) : SE :=
      (mCall f_law_told (mCons (mC (.int 2)) (mCons (mVar 4) (mCons (mVar 15) (mCons (mVar 5) mNil)))))
noncomputable def e_law_7 (f_law_walk : FS) : SE :=
      (mCall f_law_walk (mCons (mVar 4) (mCons (mVar 15) (mCons (mVar 5) mNil))))
noncomputable def e_law_8 : SE :=
      (mNeg (mVar 14))
noncomputable def e_law_9 : SE :=
      (mNeg (mVar 14))
noncomputable def e_law_10 : SE :=
      (mNeg (mVar 14))
noncomputable def m_law (f_law_state : FS) (f_law_system : FS) (f_law_bad_hold : FS) (f_law_take : FS) (f_law_word : FS) (f_law_told : FS) (f_is_word : FS) (f_law_whole_reduced : FS) (f_law_walk : FS) (f_law_product : FS) (f_law_inverse : FS) : SS :=
      (sSeq (sSet 1 (mCall f_law_state (mCons (mVar 0) mNil)))
      (sSeq (sAsg (gT (gsCons (gN 2) (gsCons (gN 3) gsNil))) (mTup (mCons (mOp fAdd (mC (.int 1)) (mCall f_law_take (mCons (mVar 1) (mCons (mC (.int 8)) mNil)))) (mCons (mCall f_law_take (mCons (mVar 1) (mCons (mC (.int 5)) mNil))) mNil))))
      (sSeq (sSet 4 (mCall f_law_system (mCons (mVar 1) (mCons (mVar 2) (mCons (mVar 3) mNil)))))
      (sSeq (sAsg (gT (gsCons (gN 5) (gsCons (gN 6) gsNil))) (mTup (mCons (mCall f_law_word (mCons (mVar 1) (mCons (mVar 3) (mCons (mC (.int 20)) mNil)))) (mCons (mCall f_law_word (mCons (mVar 1) (mCons (mVar 3) (mCons (mC (.int 20)) mNil)))) mNil))))
      (sSeq (sSet 7 (mFn fTuple (mCons (mFrz (mComp (mItems (mRevT (mVar 5))) (gN 14) mYes e_law_10 [14])) mNil)))
      (sSeq (sSet 5 (mOp fIx (mFrz (mCons (mVar 5) (mCons (mOp fAdd (mOp fAdd (mVar 5) (mVar 6)) (mFn fTuple (mCons (mFrz (mComp (mItems (mRevT (mVar 6))) (gN 14) mYes e_law_9 [14])) mNil))) (mCons (mOp fAdd (mOp fAdd (mVar 5) (mVar 7)) (mVar 6)) (mCons (mOp fAdd (mVar 7) (mVar 6)) mNil))))) (mCall f_law_take (mCons (mVar 1) (mCons (mC (.int 4)) mNil)))))
      (sSeq (sSet 7 (mFn fTuple (mCons (mFrz (mComp (mItems (mRevT (mVar 5))) (gN 14) mYes e_law_8 [14])) mNil)))
      (sSeq (sIf (mOr (mB (mOp fIsNot (mCall f_is_word (mCons (mVar 5) (mCons (mVar 3) mNil))) (mC (.bl true)))) (mOr (mB (mOp fNe (mCall f_law_told (mCons (mC (.int 0)) (mCons (mVar 5) (mCons (mVar 3) (mCons (mC (.int 0)) mNil))))) (mVar 7))) (mB (mOp fNe (mCall f_law_told (mCons (mC (.int 1)) (mCons (mVar 5) (mCons (mVar 3) (mCons (mC (.int 0)) mNil))))) (mCall f_law_whole_reduced (mCons (mVar 5) mNil)))))) (sRet (mC (.bl false))) sSkip)
      (sSeq (sSet 8 (mFn fTuple (mCons (mFrz (mComp (mRng1 (mVar 2)) (gN 15) mYes (e_law_7 f_law_walk) [15])) mNil)))
      (sSeq (sIf (mOr (mB (mOp fNe (mCall f_law_told (mCons (mC (.int 3)) (mCons (mVar 4) (mCons (mVar 5) (mCons (mC (.int 0)) mNil))))) (mVar 8))) (mB (mOp fNe (mFn fTuple (mCons (mFrz (mComp (mRng1 (mVar 2)) (gN 15) mYes (e_law_6 f_law_told) [15])) mNil)) (mVar 8)))) (sRet (mC (.bl false))) sSkip)
      (sSeq (sIf (mOr (mB (mOp fNe (mCall f_law_told (mCons (mC (.int 3)) (mCons (mVar 4) (mCons (mOp fAdd (mVar 5) (mVar 6)) (mCons (mC (.int 0)) mNil))))) (mCall f_law_product (mCons (mVar 8) (mCons (mCall f_law_told (mCons (mC (.int 3)) (mCons (mVar 4) (mCons (mVar 6) (mCons (mC (.int 0)) mNil))))) mNil))))) (mB (mOp fNe (mCall f_law_told (mCons (mC (.int 3)) (mCons (mVar 4) (mCons (mVar 7) (mCons (mC (.int 0)) mNil))))) (mCall f_law_inverse (mCons (mVar 8) mNil))))) (sRet (mC (.bl false))) sSkip)
      (sSeq (sSet 9 (mFn fTuple (mCons (mFrz (mComp (mRng1 (mCall f_law_take (mCons (mVar 1) (mCons (mC (.int 13)) mNil)))) (gN 16) mYes (e_law_5 f_law_word) [16])) mNil)))
      (sSeq (sSet 10 (mFn fTuple (mCons (mFrz (mComp (mItems (mVar 9)) (gN 17) mYes (e_law_4 f_law_walk) [17])) mNil)))
      (sSeq (sIf (mB (mOp fNe (mCall f_law_told (mCons (mC (.int 5)) (mCons (mVar 4) (mCons (mVar 9) (mCons (mC (.int 0)) mNil))))) (mTup (mCons (mVar 2) (mCons (mVar 10) mNil))))) (sRet (mC (.bl false))) sSkip)
      (sSeq (sIf (mB (mOp fGt (mVar 3) (mC (.int 0)))) (sSeq (sSet 11 (mOp fMul (mFn fTuple (mCons (mFrz (mComp (mRng1 (mC (.int 20))) (gN 16) mYes (e_law_2 f_law_take) [16])) mNil)) (mC (.int 100))))
      (sSeq (sIf (mOr (mB (mOp fIsNot (mCall f_is_word (mCons (mVar 11) (mCons (mVar 3) mNil))) (mC (.bl true)))) (mB (mOp fNe (mCall f_law_told (mCons (mC (.int 2)) (mCons (mVar 4) (mCons (mC (.int 0)) (mCons (mVar 11) mNil))))) (mCall f_law_walk (mCons (mVar 4) (mCons (mC (.int 0)) (mCons (mVar 11) mNil))))))) (sRet (mC (.bl false))) sSkip)
      (sSeq (sSet 12 (mOp fAdd (mVar 11) (mFn fTuple (mCons (mFrz (mComp (mItems (mRevT (mVar 11))) (gN 14) mYes e_law_1 [14])) mNil))))
      (sIf (mOr (mB (mOp fIsNot (mCall f_is_word (mCons (mVar 12) (mCons (mVar 3) mNil))) (mC (.bl false)))) (mB (mOp fNe (mCall f_law_told (mCons (mC (.int 1)) (mCons (mOp fAdd (mSl fSl (mVar 11) mNoPart (mPart (mC (.int 1000)))) (mFn fTuple (mCons (mFrz (mComp (mItems (mRevT (mSl fSl (mVar 11) mNoPart (mPart (mC (.int 1000)))))) (gN 14) mYes e_law_0 [14])) mNil))) (mCons (mVar 3) (mCons (mC (.int 0)) mNil))))) (mTup mNil)))) (sRet (mC (.bl false))) sSkip)))) sSkip)
      (sSeq (sFor (mItems (mFrz (mCons (mC .non) (mCons (mTup (mCons (mC (.int 1)) mNil)) (mCons (mTup (mCons (mC (.int 2)) (mCons (mTup (mCons (mTup (mCons (mC (.int 0)) (mCons (mC (.int 0)) mNil))) mNil)) mNil))) (mCons (mTup (mCons (mC (.int 25)) (mCons (mTup mNil) mNil))) mNil)))))) (gN 13) (b_law_0 f_law_told))
      (sRet (mCall f_law_bad_hold (mCons (mVar 4) (mCons (mVar 5) (mCons (mVar 3) mNil)))))))))))))))))))))
theorem w_law {k : Nat} (T : Txt K mg A fd) {f_law_state : FS} (D_law_state : FnD P w K mg base k (A 31) (fd 31) ["script"] f_law_state) {f_law_system : FS} (D_law_system : FnD P w K mg base k (A 38) (fd 38) ["state", "d", "k"] f_law_system) {f_law_bad_hold : FS} (D_law_bad_hold : FnD P w K mg base k (A 47) (fd 47) ["S", "w", "k"] f_law_bad_hold) {f_law_take : FS} (D_law_take : FnD P w K mg base k (A 32) (fd 32) ["state", "m"] f_law_take) {f_law_word : FS} (D_law_word : FnD P w K mg base k (A 40) (fd 40) ["state", "k", "most"] f_law_word) {f_law_told : FS} (D_law_told : FnD P w K mg base k (A 44) (fd 44) ["which", "a", "b", "c"] f_law_told) {f_is_word : FS} (D_is_word : FnD P w K mg base k (A 18) (fd 18) ["value", "k"] f_is_word) {f_law_whole_reduced : FS} (D_law_whole_reduced : FnD P w K mg base k (A 46) (fd 46) ["w"] f_law_whole_reduced) {f_law_walk : FS} (D_law_walk : FnD P w K mg base k (A 42) (fd 42) ["S", "x", "w"] f_law_walk) {f_law_product : FS} (D_law_product : FnD P w K mg base k (A 43) (fd 43) ["p", "q"] f_law_product) {f_law_inverse : FS} (D_law_inverse : FnD P w K mg base k (A 36) (fd 36) ["p"] f_law_inverse) : FnD P w K mg base (k + 1) (A 48) (fd 48) ["script"] (runF N_law (m_law f_law_state f_law_system f_law_bad_hold f_law_take f_law_word f_law_told f_is_word f_law_whole_reduced f_law_walk f_law_product f_law_inverse)) := by
  refine fn_def T.F_law sc_law fun cdv A_ outer s H E X hX hr tk hp => ?_
  subst hX
  exact (es_cons (es_set 1 sc_law.nd (ev_call D_law_state hr tk T.m_law_state T.F_law_state.kp (b_law_state T) (ea_cons (ev_var 0) ea_nil) (lenA_cons lenA_nil)))
      (es_cons (es_asg (ev_tup (ea_cons (ev_op opS_add ev_int (ev_call D_law_take hr tk T.m_law_take T.F_law_take.kp (b_law_take T) (ea_cons (ev_var 1) (ea_cons ev_int ea_nil)) (lenA_cons (lenA_cons lenA_nil)))) (ea_cons (ev_call D_law_take hr tk T.m_law_take T.F_law_take.kp (b_law_take T) (ea_cons (ev_var 1) (ea_cons ev_int ea_nil)) (lenA_cons (lenA_cons lenA_nil))) ea_nil)) (lenA_cons (lenA_cons lenA_nil))) (eg_tup rfl (egs_cons (eg_name (vs := [2, 3]) 2 sc_law.nd) (egs_cons (eg_name (vs := [2, 3]) 3 sc_law.nd) egs_nil)) (lenG_cons (lenG_cons lenG_nil))))
      (es_cons (es_set 4 sc_law.nd (ev_call D_law_system hr tk T.m_law_system T.F_law_system.kp (b_law_system T) (ea_cons (ev_var 1) (ea_cons (ev_var 2) (ea_cons (ev_var 3) ea_nil))) (lenA_cons (lenA_cons (lenA_cons lenA_nil)))))
      (es_cons (es_asg (ev_tup (ea_cons (ev_call D_law_word hr tk T.m_law_word T.F_law_word.kp (b_law_word T) (ea_cons (ev_var 1) (ea_cons (ev_var 3) (ea_cons ev_int ea_nil))) (lenA_cons (lenA_cons (lenA_cons lenA_nil)))) (ea_cons (ev_call D_law_word hr tk T.m_law_word T.F_law_word.kp (b_law_word T) (ea_cons (ev_var 1) (ea_cons (ev_var 3) (ea_cons ev_int ea_nil))) (lenA_cons (lenA_cons (lenA_cons lenA_nil)))) ea_nil)) (lenA_cons (lenA_cons lenA_nil))) (eg_tup rfl (egs_cons (eg_name (vs := [5, 6]) 5 sc_law.nd) (egs_cons (eg_name (vs := [5, 6]) 6 sc_law.nd) egs_nil)) (lenG_cons (lenG_cons lenG_nil))))
      (es_cons (es_set 7 sc_law.nd (ev_bt cs_tuple T.z_tuple PyProof.Rows.boot_tuple (ea_cons (ev_frz (ef_comp (own := [("i", 14)]) rfl sc_law.nd (ei_seq (ev_revT (ev_var 5))) (blkOk_by (N := N_law) (sc := defScope s_law) (own := [("i", 14)]) (by decide +kernel)) (fun s_ H_ C_ cl_ fp_ => (eg_name (vs := _) 14 sc_law.nd)) (fun s_ H_ C_ cl_ fp_ => eif_nil) (fun s_ H_ C_ cl_ fp_ => (ev_neg (ev_var 14))))) ea_nil)))
      (es_cons (es_set 5 sc_law.nd (ev_ix (ev_frz (ef_lst (ea_cons (ev_var 5) (ea_cons (ev_op opS_add (ev_op opS_add (ev_var 5) (ev_var 6)) (ev_bt cs_tuple T.z_tuple PyProof.Rows.boot_tuple (ea_cons (ev_frz (ef_comp (own := [("i", 14)]) rfl sc_law.nd (ei_seq (ev_revT (ev_var 6))) (blkOk_by (N := N_law) (sc := defScope s_law) (own := [("i", 14)]) (by decide +kernel)) (fun s_ H_ C_ cl_ fp_ => (eg_name (vs := _) 14 sc_law.nd)) (fun s_ H_ C_ cl_ fp_ => eif_nil) (fun s_ H_ C_ cl_ fp_ => (ev_neg (ev_var 14))))) ea_nil))) (ea_cons (ev_op opS_add (ev_op opS_add (ev_var 5) (ev_var 7)) (ev_var 6)) (ea_cons (ev_op opS_add (ev_var 7) (ev_var 6)) ea_nil)))) (lenA_cons (lenA_cons (lenA_cons (lenA_cons lenA_nil)))))) (ev_call D_law_take hr tk T.m_law_take T.F_law_take.kp (b_law_take T) (ea_cons (ev_var 1) (ea_cons ev_int ea_nil)) (lenA_cons (lenA_cons lenA_nil)))))
      (es_cons (es_set 7 sc_law.nd (ev_bt cs_tuple T.z_tuple PyProof.Rows.boot_tuple (ea_cons (ev_frz (ef_comp (own := [("i", 14)]) rfl sc_law.nd (ei_seq (ev_revT (ev_var 5))) (blkOk_by (N := N_law) (sc := defScope s_law) (own := [("i", 14)]) (by decide +kernel)) (fun s_ H_ C_ cl_ fp_ => (eg_name (vs := _) 14 sc_law.nd)) (fun s_ H_ C_ cl_ fp_ => eif_nil) (fun s_ H_ C_ cl_ fp_ => (ev_neg (ev_var 14))))) ea_nil)))
      (es_cons (es_if (et_of (ew_or (et_cmp opS_isNot (ev_call D_is_word hr tk T.m_is_word T.F_is_word.kp (b_is_word T) (ea_cons (ev_var 5) (ea_cons (ev_var 3) ea_nil)) (lenA_cons (lenA_cons lenA_nil))) ev_bl (nomark _)) (ew_or (et_cmp (opS_ne hr.units) (ev_call D_law_told hr tk T.m_law_told T.F_law_told.kp (b_law_told T) (ea_cons ev_int (ea_cons (ev_var 5) (ea_cons (ev_var 3) (ea_cons ev_int ea_nil)))) (lenA_cons (lenA_cons (lenA_cons (lenA_cons lenA_nil))))) (ev_var 7) (nomark _)) (ew_or1 (et_cmp (opS_ne hr.units) (ev_call D_law_told hr tk T.m_law_told T.F_law_told.kp (b_law_told T) (ea_cons ev_int (ea_cons (ev_var 5) (ea_cons (ev_var 3) (ea_cons ev_int ea_nil)))) (lenA_cons (lenA_cons (lenA_cons (lenA_cons lenA_nil))))) (ev_call D_law_whole_reduced hr tk T.m_law_whole_reduced T.F_law_whole_reduced.kp (b_law_whole_reduced T) (ea_cons (ev_var 5) ea_nil) (lenA_cons lenA_nil)) (nomark _)))))) (es_one (es_ret ev_bl)) es_nil)
      (es_cons (es_set 8 sc_law.nd (ev_bt cs_tuple T.z_tuple PyProof.Rows.boot_tuple (ea_cons (ev_frz (ef_comp (own := [("x", 15)]) rfl sc_law.nd (ei_range1 T.z_range (ev_var 2)) (blkOk_by (N := N_law) (sc := defScope s_law) (own := [("x", 15)]) (by decide +kernel)) (fun s_ H_ C_ cl_ fp_ => (eg_name (vs := _) 15 sc_law.nd)) (fun s_ H_ C_ cl_ fp_ => eif_nil) (fun s_ H_ C_ cl_ fp_ => (ev_call D_law_walk hr takes_none5 T.m_law_walk T.F_law_walk.kp (b_law_walk T) (ea_cons (ev_var 4) (ea_cons (ev_var 15) (ea_cons (ev_var 5) ea_nil))) (lenA_cons (lenA_cons (lenA_cons lenA_nil))))))) ea_nil)))
      (es_cons (es_if (et_of (ew_or (et_cmp (opS_ne hr.units) (ev_call D_law_told hr tk T.m_law_told T.F_law_told.kp (b_law_told T) (ea_cons ev_int (ea_cons (ev_var 4) (ea_cons (ev_var 5) (ea_cons ev_int ea_nil)))) (lenA_cons (lenA_cons (lenA_cons (lenA_cons lenA_nil))))) (ev_var 8) (nomark _)) (ew_or1 (et_cmp (opS_ne hr.units) (ev_bt cs_tuple T.z_tuple PyProof.Rows.boot_tuple (ea_cons (ev_frz (ef_comp (own := [("x", 15)]) rfl sc_law.nd (ei_range1 T.z_range (ev_var 2)) (blkOk_by (N := N_law) (sc := defScope s_law) (own := [("x", 15)]) (by decide +kernel)) (fun s_ H_ C_ cl_ fp_ => (eg_name (vs := _) 15 sc_law.nd)) (fun s_ H_ C_ cl_ fp_ => eif_nil) (fun s_ H_ C_ cl_ fp_ => (ev_call D_law_told hr takes_none5 T.m_law_told T.F_law_told.kp (b_law_told T) (ea_cons ev_int (ea_cons (ev_var 4) (ea_cons (ev_var 15) (ea_cons (ev_var 5) ea_nil)))) (lenA_cons (lenA_cons (lenA_cons (lenA_cons lenA_nil)))))))) ea_nil)) (ev_var 8) (nomark _))))) (es_one (es_ret ev_bl)) es_nil)
      (es_cons (es_if (et_of (ew_or (et_cmp (opS_ne hr.units) (ev_call D_law_told hr tk T.m_law_told T.F_law_told.kp (b_law_told T) (ea_cons ev_int (ea_cons (ev_var 4) (ea_cons (ev_op opS_add (ev_var 5) (ev_var 6)) (ea_cons ev_int ea_nil)))) (lenA_cons (lenA_cons (lenA_cons (lenA_cons lenA_nil))))) (ev_call D_law_product hr tk T.m_law_product T.F_law_product.kp (b_law_product T) (ea_cons (ev_var 8) (ea_cons (ev_call D_law_told hr tk T.m_law_told T.F_law_told.kp (b_law_told T) (ea_cons ev_int (ea_cons (ev_var 4) (ea_cons (ev_var 6) (ea_cons ev_int ea_nil)))) (lenA_cons (lenA_cons (lenA_cons (lenA_cons lenA_nil))))) ea_nil)) (lenA_cons (lenA_cons lenA_nil))) (nomark _)) (ew_or1 (et_cmp (opS_ne hr.units) (ev_call D_law_told hr tk T.m_law_told T.F_law_told.kp (b_law_told T) (ea_cons ev_int (ea_cons (ev_var 4) (ea_cons (ev_var 7) (ea_cons ev_int ea_nil)))) (lenA_cons (lenA_cons (lenA_cons (lenA_cons lenA_nil))))) (ev_call D_law_inverse hr tk T.m_law_inverse T.F_law_inverse.kp (b_law_inverse T) (ea_cons (ev_var 8) ea_nil) (lenA_cons lenA_nil)) (nomark _))))) (es_one (es_ret ev_bl)) es_nil)
      (es_cons (es_set 9 sc_law.nd (ev_bt cs_tuple T.z_tuple PyProof.Rows.boot_tuple (ea_cons (ev_frz (ef_comp (own := [("turn", 16)]) rfl sc_law.nd (ei_range1 T.z_range (ev_call D_law_take hr tk T.m_law_take T.F_law_take.kp (b_law_take T) (ea_cons (ev_var 1) (ea_cons ev_int ea_nil)) (lenA_cons (lenA_cons lenA_nil)))) (blkOk_by (N := N_law) (sc := defScope s_law) (own := [("turn", 16)]) (by decide +kernel)) (fun s_ H_ C_ cl_ fp_ => (eg_name (vs := _) 16 sc_law.nd)) (fun s_ H_ C_ cl_ fp_ => eif_nil) (fun s_ H_ C_ cl_ fp_ => (ev_call D_law_word hr takes_none5 T.m_law_word T.F_law_word.kp (b_law_word T) (ea_cons (ev_var 1) (ea_cons (ev_var 3) (ea_cons ev_int ea_nil))) (lenA_cons (lenA_cons (lenA_cons lenA_nil))))))) ea_nil)))
      (es_cons (es_set 10 sc_law.nd (ev_bt cs_tuple T.z_tuple PyProof.Rows.boot_tuple (ea_cons (ev_frz (ef_comp (own := [("one", 17)]) rfl sc_law.nd (ei_seq (ev_var 9)) (blkOk_by (N := N_law) (sc := defScope s_law) (own := [("one", 17)]) (by decide +kernel)) (fun s_ H_ C_ cl_ fp_ => (eg_name (vs := _) 17 sc_law.nd)) (fun s_ H_ C_ cl_ fp_ => eif_nil) (fun s_ H_ C_ cl_ fp_ => (ev_bt cs_tuple T.z_tuple PyProof.Rows.boot_tuple (ea_cons (ev_frz (ef_comp (own := [("x", 15)]) rfl sc_law.nd (ei_range1 T.z_range (ev_var 2)) (blkOk_by (by kernel_rfl)) (fun s_ H_ C_ cl_ fp_ => (eg_name (vs := _) 15 sc_law.nd)) (fun s_ H_ C_ cl_ fp_ => eif_nil) (fun s_ H_ C_ cl_ fp_ => (ev_call D_law_walk hr takes_none5 T.m_law_walk T.F_law_walk.kp (b_law_walk T) (ea_cons (ev_var 4) (ea_cons (ev_var 15) (ea_cons (ev_var 17) ea_nil))) (lenA_cons (lenA_cons (lenA_cons lenA_nil))))))) ea_nil))))) ea_nil)))
      (es_cons (es_if (et_cmp (opS_ne hr.units) (ev_call D_law_told hr tk T.m_law_told T.F_law_told.kp (b_law_told T) (ea_cons ev_int (ea_cons (ev_var 4) (ea_cons (ev_var 9) (ea_cons ev_int ea_nil)))) (lenA_cons (lenA_cons (lenA_cons (lenA_cons lenA_nil))))) (ev_tup (ea_cons (ev_var 2) (ea_cons (ev_var 10) ea_nil)) (lenA_cons (lenA_cons lenA_nil))) (nomark _)) (es_one (es_ret ev_bl)) es_nil)
      (es_cons (es_if (et_cmp opS_gt (ev_var 3) ev_int (nomark _)) (es_cons (es_set 11 sc_law.nd (ev_op opS_mul (ev_bt cs_tuple T.z_tuple PyProof.Rows.boot_tuple (ea_cons (ev_frz (ef_comp (own := [("turn", 16)]) rfl sc_law.nd (ei_range1 T.z_range ev_int) (blkOk_by (N := N_law) (sc := defScope s_law) (own := [("turn", 16)]) (by decide +kernel)) (fun s_ H_ C_ cl_ fp_ => (eg_name (vs := _) 16 sc_law.nd)) (fun s_ H_ C_ cl_ fp_ => eif_nil) (fun s_ H_ C_ cl_ fp_ => (ev_op opS_add ev_int (ev_call D_law_take hr takes_none5 T.m_law_take T.F_law_take.kp (b_law_take T) (ea_cons (ev_var 1) (ea_cons (ev_var 3) ea_nil)) (lenA_cons (lenA_cons lenA_nil))))))) ea_nil)) ev_int))
      (es_cons (es_if (et_of (ew_or (et_cmp opS_isNot (ev_call D_is_word hr tk T.m_is_word T.F_is_word.kp (b_is_word T) (ea_cons (ev_var 11) (ea_cons (ev_var 3) ea_nil)) (lenA_cons (lenA_cons lenA_nil))) ev_bl (nomark _)) (ew_or1 (et_cmp (opS_ne hr.units) (ev_call D_law_told hr tk T.m_law_told T.F_law_told.kp (b_law_told T) (ea_cons ev_int (ea_cons (ev_var 4) (ea_cons ev_int (ea_cons (ev_var 11) ea_nil)))) (lenA_cons (lenA_cons (lenA_cons (lenA_cons lenA_nil))))) (ev_call D_law_walk hr tk T.m_law_walk T.F_law_walk.kp (b_law_walk T) (ea_cons (ev_var 4) (ea_cons ev_int (ea_cons (ev_var 11) ea_nil))) (lenA_cons (lenA_cons (lenA_cons lenA_nil)))) (nomark _))))) (es_one (es_ret ev_bl)) es_nil)
      (es_cons (es_set 12 sc_law.nd (ev_op opS_add (ev_var 11) (ev_bt cs_tuple T.z_tuple PyProof.Rows.boot_tuple (ea_cons (ev_frz (ef_comp (own := [("i", 14)]) rfl sc_law.nd (ei_seq (ev_revT (ev_var 11))) (blkOk_by (N := N_law) (sc := defScope s_law) (own := [("i", 14)]) (by decide +kernel)) (fun s_ H_ C_ cl_ fp_ => (eg_name (vs := _) 14 sc_law.nd)) (fun s_ H_ C_ cl_ fp_ => eif_nil) (fun s_ H_ C_ cl_ fp_ => (ev_neg (ev_var 14))))) ea_nil))))
      (es_one (es_if (et_of (ew_or (et_cmp opS_isNot (ev_call D_is_word hr tk T.m_is_word T.F_is_word.kp (b_is_word T) (ea_cons (ev_var 12) (ea_cons (ev_var 3) ea_nil)) (lenA_cons (lenA_cons lenA_nil))) ev_bl (nomark _)) (ew_or1 (et_cmp (opS_ne hr.units) (ev_call D_law_told hr tk T.m_law_told T.F_law_told.kp (b_law_told T) (ea_cons ev_int (ea_cons (ev_op opS_add (ev_sl (ev_var 11) eo_none (eo_some ev_int)) (ev_bt cs_tuple T.z_tuple PyProof.Rows.boot_tuple (ea_cons (ev_frz (ef_comp (own := [("i", 14)]) rfl sc_law.nd (ei_seq (ev_revT (ev_sl (ev_var 11) eo_none (eo_some ev_int)))) (blkOk_by (N := N_law) (sc := defScope s_law) (own := [("i", 14)]) (by decide +kernel)) (fun s_ H_ C_ cl_ fp_ => (eg_name (vs := _) 14 sc_law.nd)) (fun s_ H_ C_ cl_ fp_ => eif_nil) (fun s_ H_ C_ cl_ fp_ => (ev_neg (ev_var 14))))) ea_nil))) (ea_cons (ev_var 3) (ea_cons ev_int ea_nil)))) (lenA_cons (lenA_cons (lenA_cons (lenA_cons lenA_nil))))) (ev_tup ea_nil lenA_nil) (nomark _))))) (es_one (es_ret ev_bl)) es_nil))))) es_nil)
      (es_cons (es_for hp rfl (ei_seq (ev_frz (ef_lst (ea_cons ev_non (ea_cons (ev_tup (ea_cons ev_int ea_nil) (lenA_cons lenA_nil)) (ea_cons (ev_tup (ea_cons ev_int (ea_cons (ev_tup (ea_cons (ev_tup (ea_cons ev_int (ea_cons ev_int ea_nil)) (lenA_cons (lenA_cons lenA_nil))) ea_nil) (lenA_cons lenA_nil)) ea_nil)) (lenA_cons (lenA_cons lenA_nil))) (ea_cons (ev_tup (ea_cons ev_int (ea_cons (ev_tup ea_nil lenA_nil) ea_nil)) (lenA_cons (lenA_cons lenA_nil))) ea_nil)))) (lenA_cons (lenA_cons (lenA_cons (lenA_cons lenA_nil))))))) (eg_name (vs := [13]) 13 sc_law.nd) (es_one (es_if (et_cmp (opS_ne hr.units) (ev_frz (ef_lst (ea_cons (ev_call D_law_told hr tk T.m_law_told T.F_law_told.kp (b_law_told T) (ea_cons ev_int (ea_cons (ev_var 13) (ea_cons ev_int (ea_cons (ev_tup ea_nil lenA_nil) ea_nil)))) (lenA_cons (lenA_cons (lenA_cons (lenA_cons lenA_nil))))) (ea_cons (ev_call D_law_told hr tk T.m_law_told T.F_law_told.kp (b_law_told T) (ea_cons ev_int (ea_cons (ev_var 13) (ea_cons (ev_tup ea_nil lenA_nil) (ea_cons ev_int ea_nil)))) (lenA_cons (lenA_cons (lenA_cons (lenA_cons lenA_nil))))) (ea_cons (ev_call D_law_told hr tk T.m_law_told T.F_law_told.kp (b_law_told T) (ea_cons ev_int (ea_cons (ev_var 13) (ea_cons (ev_tup ea_nil lenA_nil) (ea_cons ev_int ea_nil)))) (lenA_cons (lenA_cons (lenA_cons (lenA_cons lenA_nil))))) ea_nil))) (lenA_cons (lenA_cons (lenA_cons lenA_nil))))) (ev_frz (ef_mulD (ea_cons (ev_tup (ea_cons ev_str (ea_cons ev_str ea_nil)) (lenA_cons (lenA_cons lenA_nil))) ea_nil) (lenA_cons lenA_nil) ev_int)) (nomark _)) (es_one (es_ret ev_bl)) es_nil)))
      (es_one (es_ret (ev_call D_law_bad_hold hr tk T.m_law_bad_hold T.F_law_bad_hold.kp (b_law_bad_hold T) (ea_cons (ev_var 4) (ea_cons (ev_var 5) (ea_cons (ev_var 3) ea_nil))) (lenA_cons (lenA_cons (lenA_cons lenA_nil))))))))))))))))))))))
theorem ex_law_state (A : Nat → Addr) : ∃ F : FS, F = runF N_law_state (m_law_state) := ⟨_, rfl⟩
noncomputable def S_law_state (A : Nat → Addr) : FS := (ex_law_state A).choose
theorem S_law_state_eq (A : Nat → Addr) : S_law_state A = runF N_law_state (m_law_state) := (ex_law_state A).choose_spec
noncomputable abbrev B_law_state_0 (A : Nat → Addr) : SS := b_law_state_0
theorem d_law_state (T : Txt K mg A fd) : FnD P w K mg base 1 (A 31) (fd 31) ["script"] (S_law_state A) := by rw [S_law_state_eq]; exact w_law_state (k := 0) T
theorem ex_law_take (A : Nat → Addr) : ∃ F : FS, F = runF N_law_take (m_law_take) := ⟨_, rfl⟩
noncomputable def S_law_take (A : Nat → Addr) : FS := (ex_law_take A).choose
theorem S_law_take_eq (A : Nat → Addr) : S_law_take A = runF N_law_take (m_law_take) := (ex_law_take A).choose_spec
theorem d_law_take (T : Txt K mg A fd) : FnD P w K mg base 1 (A 32) (fd 32) ["state", "m"] (S_law_take A) := by rw [S_law_take_eq]; exact w_law_take (k := 0) T
theorem ex_law_inverse (A : Nat → Addr) : ∃ F : FS, F = gc (runF N_law_inverse (m_law_inverse)) := ⟨_, rfl⟩
noncomputable def S_law_inverse (A : Nat → Addr) : FS := (ex_law_inverse A).choose
theorem S_law_inverse_eq (A : Nat → Addr) : S_law_inverse A = gc (runF N_law_inverse (m_law_inverse)) := (ex_law_inverse A).choose_spec
noncomputable abbrev B_law_inverse_0 (A : Nat → Addr) : SS := b_law_inverse_0
noncomputable abbrev E_law_inverse_0 (A : Nat → Addr) : SE := e_law_inverse_0
theorem d_law_inverse (T : Txt K mg A fd) : FnD P w K mg base 1 (A 36) (fd 36) ["p"] (S_law_inverse A) := by rw [S_law_inverse_eq]; exact fn_gc (w_law_inverse (k := 0) T)
theorem ex_law_permutation (A : Nat → Addr) : ∃ F : FS, F = gc (runF N_law_permutation (m_law_permutation (S_law_take A))) := ⟨_, rfl⟩
noncomputable def S_law_permutation (A : Nat → Addr) : FS := (ex_law_permutation A).choose
theorem S_law_permutation_eq (A : Nat → Addr) : S_law_permutation A = gc (runF N_law_permutation (m_law_permutation (S_law_take A))) := (ex_law_permutation A).choose_spec
noncomputable abbrev C_law_permutation_0 (A : Nat → Addr) : SB := c_law_permutation_0
noncomputable abbrev B_law_permutation_0 (A : Nat → Addr) : SS := b_law_permutation_0 (S_law_take A)
theorem d_law_permutation (T : Txt K mg A fd) : FnD P w K mg base 2 (A 37) (fd 37) ["state", "d"] (S_law_permutation A) := by rw [S_law_permutation_eq]; exact fn_gc (w_law_permutation (k := 1) T ((d_law_take T).mono (by decide)))
theorem ex_law_system (A : Nat → Addr) : ∃ F : FS, F = gc (runF N_law_system (m_law_system (S_law_take A) (S_law_inverse A) (S_law_permutation A))) := ⟨_, rfl⟩
noncomputable def S_law_system (A : Nat → Addr) : FS := (ex_law_system A).choose
theorem S_law_system_eq (A : Nat → Addr) : S_law_system A = gc (runF N_law_system (m_law_system (S_law_take A) (S_law_inverse A) (S_law_permutation A))) := (ex_law_system A).choose_spec
noncomputable abbrev E_law_system_0 (A : Nat → Addr) : SE := e_law_system_0
noncomputable abbrev E_law_system_1 (A : Nat → Addr) : SE := e_law_system_1
noncomputable abbrev B_law_system_0 (A : Nat → Addr) : SS := b_law_system_0 (S_law_take A) (S_law_inverse A) (S_law_permutation A)
theorem d_law_system (T : Txt K mg A fd) : FnD P w K mg base 3 (A 38) (fd 38) ["state", "d", "k"] (S_law_system A) := by rw [S_law_system_eq]; exact fn_gc (w_law_system (k := 2) T ((d_law_take T).mono (by decide)) ((d_law_inverse T).mono (by decide)) ((d_law_permutation T).mono (by decide)))
theorem ex_law_says (A : Nat → Addr) : ∃ F : FS, F = gc (runF N_law_says (m_law_says)) := ⟨_, rfl⟩
noncomputable def S_law_says (A : Nat → Addr) : FS := (ex_law_says A).choose
theorem S_law_says_eq (A : Nat → Addr) : S_law_says A = gc (runF N_law_says (m_law_says)) := (ex_law_says A).choose_spec
theorem d_law_says (T : Txt K mg A fd) : FnD P w K mg base 1 (A 33) (fd 33) ["value", "due"] (S_law_says A) := by rw [S_law_says_eq]; exact fn_gc (w_law_says (k := 0) T)
theorem ex_law_is_number (A : Nat → Addr) : ∃ F : FS, F = gc (runF N_law_is_number (m_law_is_number)) := ⟨_, rfl⟩
noncomputable def S_law_is_number (A : Nat → Addr) : FS := (ex_law_is_number A).choose
theorem S_law_is_number_eq (A : Nat → Addr) : S_law_is_number A = gc (runF N_law_is_number (m_law_is_number)) := (ex_law_is_number A).choose_spec
theorem d_law_is_number (T : Txt K mg A fd) : FnD P w K mg base 1 (A 34) (fd 34) ["value"] (S_law_is_number A) := by rw [S_law_is_number_eq]; exact fn_gc (w_law_is_number (k := 0) T)
theorem ex_law_is_word (A : Nat → Addr) : ∃ F : FS, F = gc (runF N_law_is_word (m_law_is_word (S_law_is_number A))) := ⟨_, rfl⟩
noncomputable def S_law_is_word (A : Nat → Addr) : FS := (ex_law_is_word A).choose
theorem S_law_is_word_eq (A : Nat → Addr) : S_law_is_word A = gc (runF N_law_is_word (m_law_is_word (S_law_is_number A))) := (ex_law_is_word A).choose_spec
noncomputable abbrev E_law_is_word_0 (A : Nat → Addr) : SE := e_law_is_word_0 (S_law_is_number A)
theorem d_law_is_word (T : Txt K mg A fd) : FnD P w K mg base 2 (A 35) (fd 35) ["value", "k"] (S_law_is_word A) := by rw [S_law_is_word_eq]; exact fn_gc (w_law_is_word (k := 1) T ((d_law_is_number T).mono (by decide)))
noncomputable def R_law_inner (A : Nat → Addr) : Nat → FS
  | 0 => fun _ _ => .no
  | n + 1 => gc (runF N_law_inner (m_law_inner (R_law_inner A n)))
theorem ex_law_inner (A : Nat → Addr) : ∃ F : Nat → FS, F 0 = (fun _ _ => .no) ∧ ∀ n, F (n + 1) = gc (runF N_law_inner (m_law_inner (F n))) := ⟨R_law_inner A, rfl, fun _ => rfl⟩
noncomputable def S_law_inner (A : Nat → Addr) : Nat → FS := (ex_law_inner A).choose
theorem S_law_inner_eq (A : Nat → Addr) (n : Nat) : S_law_inner A (n + 1) = gc (runF N_law_inner (m_law_inner (S_law_inner A n))) := (ex_law_inner A).choose_spec.2 n
theorem d_law_inner (T : Txt K mg A fd) : ∀ n, FnD P w K mg base (0 + n) (A 29) (fd 29) ["value"] (S_law_inner A n)
  | 0 => by rw [show S_law_inner A 0 = fun _ _ => .no from (ex_law_inner A).choose_spec.1]; exact fn_none.mono (Nat.zero_le _)
  | n + 1 => by rw [S_law_inner_eq]; exact fn_gc (w_law_inner (k := 0 + n) T (d_law_inner T n))
theorem ex_law_plain (A : Nat → Addr) : ∃ F : FS, F = gc (runF N_law_plain (m_law_plain (S_law_inner A 4))) := ⟨_, rfl⟩
noncomputable def S_law_plain (A : Nat → Addr) : FS := (ex_law_plain A).choose
theorem S_law_plain_eq (A : Nat → Addr) : S_law_plain A = gc (runF N_law_plain (m_law_plain (S_law_inner A 4))) := (ex_law_plain A).choose_spec
theorem d_law_plain (T : Txt K mg A fd) : FnD P w K mg base 5 (A 30) (fd 30) ["value"] (S_law_plain A) := by rw [S_law_plain_eq]; exact fn_gc (w_law_plain (k := 4) T ((d_law_inner T 4).mono (by decide)))
theorem ex_is_integer (A : Nat → Addr) : ∃ F : FS, F = gc (runF N_is_integer (m_is_integer)) := ⟨_, rfl⟩
noncomputable def S_is_integer (A : Nat → Addr) : FS := (ex_is_integer A).choose
theorem S_is_integer_eq (A : Nat → Addr) : S_is_integer A = gc (runF N_is_integer (m_is_integer)) := (ex_is_integer A).choose_spec
theorem d_is_integer (T : Txt K mg A fd) : FnD P w K mg base 1 (A 4) (fd 4) ["value"] (S_is_integer A) := by rw [S_is_integer_eq]; exact fn_gc (w_is_integer (k := 0) T)
theorem ex_is_word (A : Nat → Addr) : ∃ F : FS, F = gc (runF N_is_word (m_is_word A (S_is_integer A))) := ⟨_, rfl⟩
noncomputable def S_is_word (A : Nat → Addr) : FS := (ex_is_word A).choose
theorem S_is_word_eq (A : Nat → Addr) : S_is_word A = gc (runF N_is_word (m_is_word A (S_is_integer A))) := (ex_is_word A).choose_spec
noncomputable abbrev E_is_word_0 (A : Nat → Addr) : SE := e_is_word_0 (S_is_integer A)
theorem d_is_word (T : Txt K mg A fd) : FnD P w K mg base 2 (A 18) (fd 18) ["value", "k"] (S_is_word A) := by rw [S_is_word_eq]; exact fn_gc (w_is_word (k := 1) T ((d_is_integer T).mono (by decide)))
theorem ex_check_word (A : Nat → Addr) : ∃ F : FS, F = gc (runF N_check_word (m_check_word A (S_is_word A))) := ⟨_, rfl⟩
noncomputable def S_check_word (A : Nat → Addr) : FS := (ex_check_word A).choose
theorem S_check_word_eq (A : Nat → Addr) : S_check_word A = gc (runF N_check_word (m_check_word A (S_is_word A))) := (ex_check_word A).choose_spec
theorem d_check_word (T : Txt K mg A fd) : FnD P w K mg base 3 (A 19) (fd 19) ["w", "k"] (S_check_word A) := by rw [S_check_word_eq]; exact fn_gc (w_check_word (k := 2) T ((d_is_word T).mono (by decide)))
theorem ex_turned_word (A : Nat → Addr) : ∃ F : FS, F = gc (runF N_turned_word (m_turned_word)) := ⟨_, rfl⟩
noncomputable def S_turned_word (A : Nat → Addr) : FS := (ex_turned_word A).choose
theorem S_turned_word_eq (A : Nat → Addr) : S_turned_word A = gc (runF N_turned_word (m_turned_word)) := (ex_turned_word A).choose_spec
noncomputable abbrev E_turned_word_0 (A : Nat → Addr) : SE := e_turned_word_0
theorem d_turned_word (T : Txt K mg A fd) : FnD P w K mg base 1 (A 20) (fd 20) ["w"] (S_turned_word A) := by rw [S_turned_word_eq]; exact fn_gc (w_turned_word (k := 0) T)
theorem ex_inverse_word (A : Nat → Addr) : ∃ F : FS, F = gc (runF N_inverse_word (m_inverse_word (S_check_word A) (S_turned_word A))) := ⟨_, rfl⟩
noncomputable def S_inverse_word (A : Nat → Addr) : FS := (ex_inverse_word A).choose
theorem S_inverse_word_eq (A : Nat → Addr) : S_inverse_word A = gc (runF N_inverse_word (m_inverse_word (S_check_word A) (S_turned_word A))) := (ex_inverse_word A).choose_spec
theorem d_inverse_word (T : Txt K mg A fd) : FnD P w K mg base 4 (A 21) (fd 21) ["w", "k"] (S_inverse_word A) := by rw [S_inverse_word_eq]; exact fn_gc (w_inverse_word (k := 3) T ((d_check_word T).mono (by decide)) ((d_turned_word T).mono (by decide)))
theorem ex_reduced_word (A : Nat → Addr) : ∃ F : FS, F = gc (runF N_reduced_word (m_reduced_word (S_check_word A))) := ⟨_, rfl⟩
noncomputable def S_reduced_word (A : Nat → Addr) : FS := (ex_reduced_word A).choose
theorem S_reduced_word_eq (A : Nat → Addr) : S_reduced_word A = gc (runF N_reduced_word (m_reduced_word (S_check_word A))) := (ex_reduced_word A).choose_spec
noncomputable abbrev B_reduced_word_0 (A : Nat → Addr) : SS := b_reduced_word_0
theorem d_reduced_word (T : Txt K mg A fd) : FnD P w K mg base 4 (A 22) (fd 22) ["w", "k"] (S_reduced_word A) := by rw [S_reduced_word_eq]; exact fn_gc (w_reduced_word (k := 3) T ((d_check_word T).mono (by decide)))
theorem ex_is_permutation (A : Nat → Addr) : ∃ F : FS, F = gc (runF N_is_permutation (m_is_permutation (S_is_integer A))) := ⟨_, rfl⟩
noncomputable def S_is_permutation (A : Nat → Addr) : FS := (ex_is_permutation A).choose
theorem S_is_permutation_eq (A : Nat → Addr) : S_is_permutation A = gc (runF N_is_permutation (m_is_permutation (S_is_integer A))) := (ex_is_permutation A).choose_spec
noncomputable abbrev B_is_permutation_0 (A : Nat → Addr) : SS := b_is_permutation_0 (S_is_integer A)
theorem d_is_permutation (T : Txt K mg A fd) : FnD P w K mg base 2 (A 6) (fd 6) ["value"] (S_is_permutation A) := by rw [S_is_permutation_eq]; exact fn_gc (w_is_permutation (k := 1) T ((d_is_integer T).mono (by decide)))
theorem ex_is_system (A : Nat → Addr) : ∃ F : FS, F = gc (runF N_is_system (m_is_system (S_is_integer A) (S_is_permutation A))) := ⟨_, rfl⟩
noncomputable def S_is_system (A : Nat → Addr) : FS := (ex_is_system A).choose
theorem S_is_system_eq (A : Nat → Addr) : S_is_system A = gc (runF N_is_system (m_is_system (S_is_integer A) (S_is_permutation A))) := (ex_is_system A).choose_spec
noncomputable abbrev E_is_system_0 (A : Nat → Addr) : SE := e_is_system_0 (S_is_permutation A)
theorem d_is_system (T : Txt K mg A fd) : FnD P w K mg base 3 (A 14) (fd 14) ["value"] (S_is_system A) := by rw [S_is_system_eq]; exact fn_gc (w_is_system (k := 2) T ((d_is_integer T).mono (by decide)) ((d_is_permutation T).mono (by decide)))
theorem ex_check_system (A : Nat → Addr) : ∃ F : FS, F = gc (runF N_check_system (m_check_system A (S_is_system A))) := ⟨_, rfl⟩
noncomputable def S_check_system (A : Nat → Addr) : FS := (ex_check_system A).choose
theorem S_check_system_eq (A : Nat → Addr) : S_check_system A = gc (runF N_check_system (m_check_system A (S_is_system A))) := (ex_check_system A).choose_spec
theorem d_check_system (T : Txt K mg A fd) : FnD P w K mg base 4 (A 15) (fd 15) ["S"] (S_check_system A) := by rw [S_check_system_eq]; exact fn_gc (w_check_system (k := 3) T ((d_is_system T).mono (by decide)))
theorem ex_is_sheet (A : Nat → Addr) : ∃ F : FS, F = gc (runF N_is_sheet (m_is_sheet (S_is_integer A))) := ⟨_, rfl⟩
noncomputable def S_is_sheet (A : Nat → Addr) : FS := (ex_is_sheet A).choose
theorem S_is_sheet_eq (A : Nat → Addr) : S_is_sheet A = gc (runF N_is_sheet (m_is_sheet (S_is_integer A))) := (ex_is_sheet A).choose_spec
theorem d_is_sheet (T : Txt K mg A fd) : FnD P w K mg base 2 (A 16) (fd 16) ["value", "S"] (S_is_sheet A) := by rw [S_is_sheet_eq]; exact fn_gc (w_is_sheet (k := 1) T ((d_is_integer T).mono (by decide)))
theorem ex_check_sheet (A : Nat → Addr) : ∃ F : FS, F = gc (runF N_check_sheet (m_check_sheet A (S_is_sheet A))) := ⟨_, rfl⟩
noncomputable def S_check_sheet (A : Nat → Addr) : FS := (ex_check_sheet A).choose
theorem S_check_sheet_eq (A : Nat → Addr) : S_check_sheet A = gc (runF N_check_sheet (m_check_sheet A (S_is_sheet A))) := (ex_check_sheet A).choose_spec
theorem d_check_sheet (T : Txt K mg A fd) : FnD P w K mg base 3 (A 17) (fd 17) ["x", "S"] (S_check_sheet A) := by rw [S_check_sheet_eq]; exact fn_gc (w_check_sheet (k := 2) T ((d_is_sheet T).mono (by decide)))
theorem ex_led_along (A : Nat → Addr) : ∃ F : FS, F = gc (runF N_led_along (m_led_along)) := ⟨_, rfl⟩
noncomputable def S_led_along (A : Nat → Addr) : FS := (ex_led_along A).choose
theorem S_led_along_eq (A : Nat → Addr) : S_led_along A = gc (runF N_led_along (m_led_along)) := (ex_led_along A).choose_spec
noncomputable abbrev B_led_along_0 (A : Nat → Addr) : SS := b_led_along_0
theorem d_led_along (T : Txt K mg A fd) : FnD P w K mg base 1 (A 24) (fd 24) ["tables", "x", "w"] (S_led_along A) := by rw [S_led_along_eq]; exact fn_gc (w_led_along (k := 0) T)
theorem ex_check_permutation (A : Nat → Addr) : ∃ F : FS, F = gc (runF N_check_permutation (m_check_permutation A (S_is_permutation A))) := ⟨_, rfl⟩
noncomputable def S_check_permutation (A : Nat → Addr) : FS := (ex_check_permutation A).choose
theorem S_check_permutation_eq (A : Nat → Addr) : S_check_permutation A = gc (runF N_check_permutation (m_check_permutation A (S_is_permutation A))) := (ex_check_permutation A).choose_spec
theorem d_check_permutation (T : Txt K mg A fd) : FnD P w K mg base 3 (A 7) (fd 7) ["p"] (S_check_permutation A) := by rw [S_check_permutation_eq]; exact fn_gc (w_check_permutation (k := 2) T ((d_is_permutation T).mono (by decide)))
theorem ex_undone (A : Nat → Addr) : ∃ F : FS, F = gc (runF N_undone (m_undone)) := ⟨_, rfl⟩
noncomputable def S_undone (A : Nat → Addr) : FS := (ex_undone A).choose
theorem S_undone_eq (A : Nat → Addr) : S_undone A = gc (runF N_undone (m_undone)) := (ex_undone A).choose_spec
noncomputable abbrev B_undone_0 (A : Nat → Addr) : SS := b_undone_0
theorem d_undone (T : Txt K mg A fd) : FnD P w K mg base 1 (A 8) (fd 8) ["p"] (S_undone A) := by rw [S_undone_eq]; exact fn_gc (w_undone (k := 0) T)
theorem ex_inverse_of (A : Nat → Addr) : ∃ F : FS, F = gc (runF N_inverse_of (m_inverse_of (S_check_permutation A) (S_undone A))) := ⟨_, rfl⟩
noncomputable def S_inverse_of (A : Nat → Addr) : FS := (ex_inverse_of A).choose
theorem S_inverse_of_eq (A : Nat → Addr) : S_inverse_of A = gc (runF N_inverse_of (m_inverse_of (S_check_permutation A) (S_undone A))) := (ex_inverse_of A).choose_spec
theorem d_inverse_of (T : Txt K mg A fd) : FnD P w K mg base 4 (A 9) (fd 9) ["p"] (S_inverse_of A) := by rw [S_inverse_of_eq]; exact fn_gc (w_inverse_of (k := 3) T ((d_check_permutation T).mono (by decide)) ((d_undone T).mono (by decide)))
theorem ex_letter_tables (A : Nat → Addr) : ∃ F : FS, F = runF N_letter_tables (m_letter_tables (S_inverse_of A)) := ⟨_, rfl⟩
noncomputable def S_letter_tables (A : Nat → Addr) : FS := (ex_letter_tables A).choose
theorem S_letter_tables_eq (A : Nat → Addr) : S_letter_tables A = runF N_letter_tables (m_letter_tables (S_inverse_of A)) := (ex_letter_tables A).choose_spec
noncomputable abbrev B_letter_tables_0 (A : Nat → Addr) : SS := b_letter_tables_0 (S_inverse_of A)
theorem d_letter_tables (T : Txt K mg A fd) : FnD P w K mg base 5 (A 23) (fd 23) ["S"] (S_letter_tables A) := by rw [S_letter_tables_eq]; exact w_letter_tables (k := 4) T ((d_inverse_of T).mono (by decide))
theorem ex_walk_word (A : Nat → Addr) : ∃ F : FS, F = gc (runF N_walk_word (m_walk_word (S_check_system A) (S_check_sheet A) (S_check_word A) (S_led_along A) (S_letter_tables A))) := ⟨_, rfl⟩
noncomputable def S_walk_word (A : Nat → Addr) : FS := (ex_walk_word A).choose
theorem S_walk_word_eq (A : Nat → Addr) : S_walk_word A = gc (runF N_walk_word (m_walk_word (S_check_system A) (S_check_sheet A) (S_check_word A) (S_led_along A) (S_letter_tables A))) := (ex_walk_word A).choose_spec
theorem d_walk_word (T : Txt K mg A fd) : FnD P w K mg base 6 (A 25) (fd 25) ["S", "x", "w"] (S_walk_word A) := by rw [S_walk_word_eq]; exact fn_gc (w_walk_word (k := 5) T ((d_check_system T).mono (by decide)) ((d_check_sheet T).mono (by decide)) ((d_check_word T).mono (by decide)) ((d_led_along T).mono (by decide)) ((d_letter_tables T).mono (by decide)))
theorem ex_word_permutation (A : Nat → Addr) : ∃ F : FS, F = gc (runF N_word_permutation (m_word_permutation (S_check_system A) (S_check_word A) (S_letter_tables A) (S_led_along A))) := ⟨_, rfl⟩
noncomputable def S_word_permutation (A : Nat → Addr) : FS := (ex_word_permutation A).choose
theorem S_word_permutation_eq (A : Nat → Addr) : S_word_permutation A = gc (runF N_word_permutation (m_word_permutation (S_check_system A) (S_check_word A) (S_letter_tables A) (S_led_along A))) := (ex_word_permutation A).choose_spec
noncomputable abbrev E_word_permutation_0 (A : Nat → Addr) : SE := e_word_permutation_0 (S_led_along A)
theorem d_word_permutation (T : Txt K mg A fd) : FnD P w K mg base 6 (A 26) (fd 26) ["S", "w"] (S_word_permutation A) := by rw [S_word_permutation_eq]; exact fn_gc (w_word_permutation (k := 5) T ((d_check_system T).mono (by decide)) ((d_check_word T).mono (by decide)) ((d_letter_tables T).mono (by decide)) ((d_led_along T).mono (by decide)))
theorem ex_told_system (A : Nat → Addr) : ∃ F : FS, F = gc (runF N_told_system (m_told_system A (S_check_system A) (S_letter_tables A) (S_is_word A) (S_led_along A))) := ⟨_, rfl⟩
noncomputable def S_told_system (A : Nat → Addr) : FS := (ex_told_system A).choose
theorem S_told_system_eq (A : Nat → Addr) : S_told_system A = gc (runF N_told_system (m_told_system A (S_check_system A) (S_letter_tables A) (S_is_word A) (S_led_along A))) := (ex_told_system A).choose_spec
noncomputable abbrev E_told_system_0 (A : Nat → Addr) : SE := e_told_system_0 (S_led_along A)
noncomputable abbrev E_told_system_1 (A : Nat → Addr) : SE := e_told_system_1 (S_led_along A)
noncomputable abbrev E_told_system_2 (A : Nat → Addr) : SE := e_told_system_2 (S_is_word A)
theorem d_told_system (T : Txt K mg A fd) : FnD P w K mg base 6 (A 27) (fd 27) ["S", "words"] (S_told_system A) := by rw [S_told_system_eq]; exact fn_gc (w_told_system (k := 5) T ((d_check_system T).mono (by decide)) ((d_letter_tables T).mono (by decide)) ((d_is_word T).mono (by decide)) ((d_led_along T).mono (by decide)))
theorem ex_law_told (A : Nat → Addr) : ∃ F : FS, F = gc (runF N_law_told (m_law_told A (S_law_plain A) (S_is_word A) (S_inverse_word A) (S_reduced_word A) (S_walk_word A) (S_word_permutation A) (S_told_system A))) := ⟨_, rfl⟩
noncomputable def S_law_told (A : Nat → Addr) : FS := (ex_law_told A).choose
theorem S_law_told_eq (A : Nat → Addr) : S_law_told A = gc (runF N_law_told (m_law_told A (S_law_plain A) (S_is_word A) (S_inverse_word A) (S_reduced_word A) (S_walk_word A) (S_word_permutation A) (S_told_system A))) := (ex_law_told A).choose_spec
theorem d_law_told (T : Txt K mg A fd) : FnD P w K mg base 7 (A 44) (fd 44) ["which", "a", "b", "c"] (S_law_told A) := by rw [S_law_told_eq]; exact fn_gc (w_law_told (k := 6) T ((d_law_plain T).mono (by decide)) ((d_is_word T).mono (by decide)) ((d_inverse_word T).mono (by decide)) ((d_reduced_word T).mono (by decide)) ((d_walk_word T).mono (by decide)) ((d_word_permutation T).mono (by decide)) ((d_told_system T).mono (by decide)))
theorem ex_law_bad_hold (A : Nat → Addr) : ∃ F : FS, F = gc (runF N_law_bad_hold (m_law_bad_hold (S_law_says A) (S_law_is_word A) (S_law_told A) (S_is_word A))) := ⟨_, rfl⟩
noncomputable def S_law_bad_hold (A : Nat → Addr) : FS := (ex_law_bad_hold A).choose
theorem S_law_bad_hold_eq (A : Nat → Addr) : S_law_bad_hold A = gc (runF N_law_bad_hold (m_law_bad_hold (S_law_says A) (S_law_is_word A) (S_law_told A) (S_is_word A))) := (ex_law_bad_hold A).choose_spec
noncomputable abbrev E_law_bad_hold_0 (A : Nat → Addr) : SE := e_law_bad_hold_0 (S_law_told A)
noncomputable abbrev B_law_bad_hold_0 (A : Nat → Addr) : SS := b_law_bad_hold_0 (S_law_told A)
noncomputable abbrev E_law_bad_hold_1 (A : Nat → Addr) : SE := e_law_bad_hold_1 (S_law_told A)
noncomputable abbrev B_law_bad_hold_1 (A : Nat → Addr) : SS := b_law_bad_hold_1 (S_law_told A)
noncomputable abbrev B_law_bad_hold_2 (A : Nat → Addr) : SS := b_law_bad_hold_2 (S_law_says A) (S_is_word A) (S_law_is_word A) (S_law_told A)
theorem d_law_bad_hold (T : Txt K mg A fd) : FnD P w K mg base 8 (A 47) (fd 47) ["S", "w", "k"] (S_law_bad_hold A) := by rw [S_law_bad_hold_eq]; exact fn_gc (w_law_bad_hold (k := 7) T ((d_law_says T).mono (by decide)) ((d_law_is_word T).mono (by decide)) ((d_law_told T).mono (by decide)) ((d_is_word T).mono (by decide)))
theorem ex_law_letters (A : Nat → Addr) : ∃ F : FS, F = gc (runF N_law_letters (m_law_letters)) := ⟨_, rfl⟩
noncomputable def S_law_letters (A : Nat → Addr) : FS := (ex_law_letters A).choose
theorem S_law_letters_eq (A : Nat → Addr) : S_law_letters A = gc (runF N_law_letters (m_law_letters)) := (ex_law_letters A).choose_spec
noncomputable abbrev B_law_letters_0 (A : Nat → Addr) : SS := b_law_letters_0
theorem d_law_letters (T : Txt K mg A fd) : FnD P w K mg base 1 (A 39) (fd 39) ["k"] (S_law_letters A) := by rw [S_law_letters_eq]; exact fn_gc (w_law_letters (k := 0) T)
theorem ex_law_word (A : Nat → Addr) : ∃ F : FS, F = gc (runF N_law_word (m_law_word (S_law_letters A) (S_law_take A))) := ⟨_, rfl⟩
noncomputable def S_law_word (A : Nat → Addr) : FS := (ex_law_word A).choose
theorem S_law_word_eq (A : Nat → Addr) : S_law_word A = gc (runF N_law_word (m_law_word (S_law_letters A) (S_law_take A))) := (ex_law_word A).choose_spec
noncomputable abbrev E_law_word_0 (A : Nat → Addr) : SE := e_law_word_0 (S_law_take A)
theorem d_law_word (T : Txt K mg A fd) : FnD P w K mg base 2 (A 40) (fd 40) ["state", "k", "most"] (S_law_word A) := by rw [S_law_word_eq]; exact fn_gc (w_law_word (k := 1) T ((d_law_letters T).mono (by decide)) ((d_law_take T).mono (by decide)))
theorem ex_law_reduced (A : Nat → Addr) : ∃ F : FS, F = gc (runF N_law_reduced (m_law_reduced)) := ⟨_, rfl⟩
noncomputable def S_law_reduced (A : Nat → Addr) : FS := (ex_law_reduced A).choose
theorem S_law_reduced_eq (A : Nat → Addr) : S_law_reduced A = gc (runF N_law_reduced (m_law_reduced)) := (ex_law_reduced A).choose_spec
noncomputable abbrev C_law_reduced_0 (A : Nat → Addr) : SB := c_law_reduced_0
noncomputable abbrev B_law_reduced_0 (A : Nat → Addr) : SS := b_law_reduced_0
theorem d_law_reduced (T : Txt K mg A fd) : FnD P w K mg base 1 (A 45) (fd 45) ["w"] (S_law_reduced A) := by rw [S_law_reduced_eq]; exact fn_gc (w_law_reduced (k := 0) T)
theorem ex_law_whole_reduced (A : Nat → Addr) : ∃ F : FS, F = gc (runF N_law_whole_reduced (m_law_whole_reduced (S_law_reduced A))) := ⟨_, rfl⟩
noncomputable def S_law_whole_reduced (A : Nat → Addr) : FS := (ex_law_whole_reduced A).choose
theorem S_law_whole_reduced_eq (A : Nat → Addr) : S_law_whole_reduced A = gc (runF N_law_whole_reduced (m_law_whole_reduced (S_law_reduced A))) := (ex_law_whole_reduced A).choose_spec
noncomputable abbrev C_law_whole_reduced_0 (A : Nat → Addr) : SB := c_law_whole_reduced_0 (S_law_reduced A)
noncomputable abbrev B_law_whole_reduced_0 (A : Nat → Addr) : SS := b_law_whole_reduced_0 (S_law_reduced A)
theorem d_law_whole_reduced (T : Txt K mg A fd) : FnD P w K mg base 2 (A 46) (fd 46) ["w"] (S_law_whole_reduced A) := by rw [S_law_whole_reduced_eq]; exact fn_gc (w_law_whole_reduced (k := 1) T ((d_law_reduced T).mono (by decide)))
theorem ex_law_step (A : Nat → Addr) : ∃ F : FS, F = gc (runF N_law_step (m_law_step (S_law_inverse A))) := ⟨_, rfl⟩
noncomputable def S_law_step (A : Nat → Addr) : FS := (ex_law_step A).choose
theorem S_law_step_eq (A : Nat → Addr) : S_law_step A = gc (runF N_law_step (m_law_step (S_law_inverse A))) := (ex_law_step A).choose_spec
theorem d_law_step (T : Txt K mg A fd) : FnD P w K mg base 2 (A 41) (fd 41) ["S", "x", "i"] (S_law_step A) := by rw [S_law_step_eq]; exact fn_gc (w_law_step (k := 1) T ((d_law_inverse T).mono (by decide)))
theorem ex_law_walk (A : Nat → Addr) : ∃ F : FS, F = gc (runF N_law_walk (m_law_walk (S_law_step A))) := ⟨_, rfl⟩
noncomputable def S_law_walk (A : Nat → Addr) : FS := (ex_law_walk A).choose
theorem S_law_walk_eq (A : Nat → Addr) : S_law_walk A = gc (runF N_law_walk (m_law_walk (S_law_step A))) := (ex_law_walk A).choose_spec
noncomputable abbrev B_law_walk_0 (A : Nat → Addr) : SS := b_law_walk_0 (S_law_step A)
theorem d_law_walk (T : Txt K mg A fd) : FnD P w K mg base 3 (A 42) (fd 42) ["S", "x", "w"] (S_law_walk A) := by rw [S_law_walk_eq]; exact fn_gc (w_law_walk (k := 2) T ((d_law_step T).mono (by decide)))
theorem ex_law_product (A : Nat → Addr) : ∃ F : FS, F = gc (runF N_law_product (m_law_product)) := ⟨_, rfl⟩
noncomputable def S_law_product (A : Nat → Addr) : FS := (ex_law_product A).choose
theorem S_law_product_eq (A : Nat → Addr) : S_law_product A = gc (runF N_law_product (m_law_product)) := (ex_law_product A).choose_spec
noncomputable abbrev E_law_product_0 (A : Nat → Addr) : SE := e_law_product_0
theorem d_law_product (T : Txt K mg A fd) : FnD P w K mg base 1 (A 43) (fd 43) ["p", "q"] (S_law_product A) := by rw [S_law_product_eq]; exact fn_gc (w_law_product (k := 0) T)
theorem ex_law (A : Nat → Addr) : ∃ F : FS, F = gc (runF N_law (m_law (S_law_state A) (S_law_system A) (S_law_bad_hold A) (S_law_take A) (S_law_word A) (S_law_told A) (S_is_word A) (S_law_whole_reduced A) (S_law_walk A) (S_law_product A) (S_law_inverse A))) := ⟨_, rfl⟩
noncomputable def S_law (A : Nat → Addr) : FS := (ex_law A).choose
theorem S_law_eq (A : Nat → Addr) : S_law A = gc (runF N_law (m_law (S_law_state A) (S_law_system A) (S_law_bad_hold A) (S_law_take A) (S_law_word A) (S_law_told A) (S_is_word A) (S_law_whole_reduced A) (S_law_walk A) (S_law_product A) (S_law_inverse A))) := (ex_law A).choose_spec
noncomputable abbrev B_law_0 (A : Nat → Addr) : SS := b_law_0 (S_law_told A)
noncomputable abbrev E_law_0 (A : Nat → Addr) : SE := e_law_0
noncomputable abbrev E_law_1 (A : Nat → Addr) : SE := e_law_1
noncomputable abbrev E_law_2 (A : Nat → Addr) : SE := e_law_2 (S_law_take A)
noncomputable abbrev E_law_3 (A : Nat → Addr) : SE := e_law_3 (S_law_walk A)
noncomputable abbrev E_law_4 (A : Nat → Addr) : SE := e_law_4 (S_law_walk A)
noncomputable abbrev E_law_5 (A : Nat → Addr) : SE := e_law_5 (S_law_word A)
noncomputable abbrev E_law_6 (A : Nat → Addr) : SE := e_law_6 (S_law_told A)
noncomputable abbrev E_law_7 (A : Nat → Addr) : SE := e_law_7 (S_law_walk A)
noncomputable abbrev E_law_8 (A : Nat → Addr) : SE := e_law_8
noncomputable abbrev E_law_9 (A : Nat → Addr) : SE := e_law_9
noncomputable abbrev E_law_10 (A : Nat → Addr) : SE := e_law_10
theorem d_law (T : Txt K mg A fd) : FnD P w K mg base 9 (A 48) (fd 48) ["script"] (S_law A) := by rw [S_law_eq]; exact fn_gc (w_law (k := 8) T ((d_law_state T).mono (by decide)) ((d_law_system T).mono (by decide)) ((d_law_bad_hold T).mono (by decide)) ((d_law_take T).mono (by decide)) ((d_law_word T).mono (by decide)) ((d_law_told T).mono (by decide)) ((d_is_word T).mono (by decide)) ((d_law_whole_reduced T).mono (by decide)) ((d_law_walk T).mono (by decide)) ((d_law_product T).mono (by decide)) ((d_law_inverse T).mono (by decide)))
end
theorem all_mk {l : PySem.W.OpenLaw} {w : World} {K : PySem.W.Frag} {h : Heap} {mg : Str → Option Value} {fa : Addr}
    {f2 f4 f6 f7 f8 f9 f14 f15 f16 f17 f18 f19 f20 f21 f22 f23 f24 f25 f26 f27 f29 f30 f31 f32 f33 f34 f35 f36 f37 f38 f39 f40 f41 f42 f43 f44 f45 f46 f47 f48 : Addr}
    {od31 an31 : Option Addr} {sl31 : Array (Option Value)} {oc31 kV31 dc31 pm31 cd31 ct31 : Value}
    {od32 an32 : Option Addr} {sl32 : Array (Option Value)} {oc32 kV32 dc32 pm32 cd32 ct32 : Value}
    {od36 an36 : Option Addr} {sl36 : Array (Option Value)} {oc36 kV36 dc36 pm36 cd36 ct36 : Value}
    {od37 an37 : Option Addr} {sl37 : Array (Option Value)} {oc37 kV37 dc37 pm37 cd37 ct37 : Value}
    {od38 an38 : Option Addr} {sl38 : Array (Option Value)} {oc38 kV38 dc38 pm38 cd38 ct38 : Value}
    {od33 an33 : Option Addr} {sl33 : Array (Option Value)} {oc33 kV33 dc33 pm33 cd33 ct33 : Value}
    {od34 an34 : Option Addr} {sl34 : Array (Option Value)} {oc34 kV34 dc34 pm34 cd34 ct34 : Value}
    {od35 an35 : Option Addr} {sl35 : Array (Option Value)} {oc35 kV35 dc35 pm35 cd35 ct35 : Value}
    {od29 an29 : Option Addr} {sl29 : Array (Option Value)} {oc29 kV29 dc29 pm29 cd29 ct29 : Value}
    {od30 an30 : Option Addr} {sl30 : Array (Option Value)} {oc30 kV30 dc30 pm30 cd30 ct30 : Value}
    {od4 an4 : Option Addr} {sl4 : Array (Option Value)} {oc4 kV4 dc4 pm4 cd4 ct4 : Value}
    {od18 an18 : Option Addr} {sl18 : Array (Option Value)} {oc18 kV18 dc18 pm18 cd18 ct18 : Value}
    {od19 an19 : Option Addr} {sl19 : Array (Option Value)} {oc19 kV19 dc19 pm19 cd19 ct19 : Value}
    {od20 an20 : Option Addr} {sl20 : Array (Option Value)} {oc20 kV20 dc20 pm20 cd20 ct20 : Value}
    {od21 an21 : Option Addr} {sl21 : Array (Option Value)} {oc21 kV21 dc21 pm21 cd21 ct21 : Value}
    {od22 an22 : Option Addr} {sl22 : Array (Option Value)} {oc22 kV22 dc22 pm22 cd22 ct22 : Value}
    {od6 an6 : Option Addr} {sl6 : Array (Option Value)} {oc6 kV6 dc6 pm6 cd6 ct6 : Value}
    {od14 an14 : Option Addr} {sl14 : Array (Option Value)} {oc14 kV14 dc14 pm14 cd14 ct14 : Value}
    {od15 an15 : Option Addr} {sl15 : Array (Option Value)} {oc15 kV15 dc15 pm15 cd15 ct15 : Value}
    {od16 an16 : Option Addr} {sl16 : Array (Option Value)} {oc16 kV16 dc16 pm16 cd16 ct16 : Value}
    {od17 an17 : Option Addr} {sl17 : Array (Option Value)} {oc17 kV17 dc17 pm17 cd17 ct17 : Value}
    {od24 an24 : Option Addr} {sl24 : Array (Option Value)} {oc24 kV24 dc24 pm24 cd24 ct24 : Value}
    {od7 an7 : Option Addr} {sl7 : Array (Option Value)} {oc7 kV7 dc7 pm7 cd7 ct7 : Value}
    {od8 an8 : Option Addr} {sl8 : Array (Option Value)} {oc8 kV8 dc8 pm8 cd8 ct8 : Value}
    {od9 an9 : Option Addr} {sl9 : Array (Option Value)} {oc9 kV9 dc9 pm9 cd9 ct9 : Value}
    {od23 an23 : Option Addr} {sl23 : Array (Option Value)} {oc23 kV23 dc23 pm23 cd23 ct23 : Value}
    {od25 an25 : Option Addr} {sl25 : Array (Option Value)} {oc25 kV25 dc25 pm25 cd25 ct25 : Value}
    {od26 an26 : Option Addr} {sl26 : Array (Option Value)} {oc26 kV26 dc26 pm26 cd26 ct26 : Value}
    {od27 an27 : Option Addr} {sl27 : Array (Option Value)} {oc27 kV27 dc27 pm27 cd27 ct27 : Value}
    {od44 an44 : Option Addr} {sl44 : Array (Option Value)} {oc44 kV44 dc44 pm44 cd44 ct44 : Value}
    {od47 an47 : Option Addr} {sl47 : Array (Option Value)} {oc47 kV47 dc47 pm47 cd47 ct47 : Value}
    {od39 an39 : Option Addr} {sl39 : Array (Option Value)} {oc39 kV39 dc39 pm39 cd39 ct39 : Value}
    {od40 an40 : Option Addr} {sl40 : Array (Option Value)} {oc40 kV40 dc40 pm40 cd40 ct40 : Value}
    {od45 an45 : Option Addr} {sl45 : Array (Option Value)} {oc45 kV45 dc45 pm45 cd45 ct45 : Value}
    {od46 an46 : Option Addr} {sl46 : Array (Option Value)} {oc46 kV46 dc46 pm46 cd46 ct46 : Value}
    {od41 an41 : Option Addr} {sl41 : Array (Option Value)} {oc41 kV41 dc41 pm41 cd41 ct41 : Value}
    {od42 an42 : Option Addr} {sl42 : Array (Option Value)} {oc42 kV42 dc42 pm42 cd42 ct42 : Value}
    {od43 an43 : Option Addr} {sl43 : Array (Option Value)} {oc43 kV43 dc43 pm43 cd43 ct43 : Value}
    {od48 an48 : Option Addr} {sl48 : Array (Option Value)} {oc48 kV48 dc48 pm48 cd48 ct48 : Value}
    {t_MOST_LETTERS : Tok}
    {t_MOST_RANK : Tok}
    {t_MOST_SHEETS : Tok} (X : K.In h) (G : h.Ns mainGlobals mg) (hfa : mg "law" = some (.ref fa))
    (a31 : PySem.W.nsIn K mainGlobals "_law_state" = some (some (.ref f31))) (l31 : K.lookup f31 = some ⟨oc31, od31, .func (PySem.W.fnOf "_law_state" "_law_state" (defArgs s_law_state) (defBody s_law_state) (defScope s_law_state) .none kV31 dc31 pm31 an31 cd31 ct31), sl31⟩) (c31 : PySem.W.codeIn K cd31 "_law_state" = true) (k31 : PySem.W.keepIn K (.ref f31) = true)
    (a32 : PySem.W.nsIn K mainGlobals "_law_take" = some (some (.ref f32))) (l32 : K.lookup f32 = some ⟨oc32, od32, .func (PySem.W.fnOf "_law_take" "_law_take" (defArgs s_law_take) (defBody s_law_take) (defScope s_law_take) .none kV32 dc32 pm32 an32 cd32 ct32), sl32⟩) (c32 : PySem.W.codeIn K cd32 "_law_take" = true) (k32 : PySem.W.keepIn K (.ref f32) = true)
    (a36 : PySem.W.nsIn K mainGlobals "_law_inverse" = some (some (.ref f36))) (l36 : K.lookup f36 = some ⟨oc36, od36, .func (PySem.W.fnOf "_law_inverse" "_law_inverse" (defArgs s_law_inverse) (defBody s_law_inverse) (defScope s_law_inverse) .none kV36 dc36 pm36 an36 cd36 ct36), sl36⟩) (c36 : PySem.W.codeIn K cd36 "_law_inverse" = true) (k36 : PySem.W.keepIn K (.ref f36) = true)
    (a37 : PySem.W.nsIn K mainGlobals "_law_permutation" = some (some (.ref f37))) (l37 : K.lookup f37 = some ⟨oc37, od37, .func (PySem.W.fnOf "_law_permutation" "_law_permutation" (defArgs s_law_permutation) (defBody s_law_permutation) (defScope s_law_permutation) .none kV37 dc37 pm37 an37 cd37 ct37), sl37⟩) (c37 : PySem.W.codeIn K cd37 "_law_permutation" = true) (k37 : PySem.W.keepIn K (.ref f37) = true)
    (a38 : PySem.W.nsIn K mainGlobals "_law_system" = some (some (.ref f38))) (l38 : K.lookup f38 = some ⟨oc38, od38, .func (PySem.W.fnOf "_law_system" "_law_system" (defArgs s_law_system) (defBody s_law_system) (defScope s_law_system) .none kV38 dc38 pm38 an38 cd38 ct38), sl38⟩) (c38 : PySem.W.codeIn K cd38 "_law_system" = true) (k38 : PySem.W.keepIn K (.ref f38) = true)
    (a33 : PySem.W.nsIn K mainGlobals "_law_says" = some (some (.ref f33))) (l33 : K.lookup f33 = some ⟨oc33, od33, .func (PySem.W.fnOf "_law_says" "_law_says" (defArgs s_law_says) (defBody s_law_says) (defScope s_law_says) .none kV33 dc33 pm33 an33 cd33 ct33), sl33⟩) (c33 : PySem.W.codeIn K cd33 "_law_says" = true) (k33 : PySem.W.keepIn K (.ref f33) = true)
    (a34 : PySem.W.nsIn K mainGlobals "_law_is_number" = some (some (.ref f34))) (l34 : K.lookup f34 = some ⟨oc34, od34, .func (PySem.W.fnOf "_law_is_number" "_law_is_number" (defArgs s_law_is_number) (defBody s_law_is_number) (defScope s_law_is_number) .none kV34 dc34 pm34 an34 cd34 ct34), sl34⟩) (c34 : PySem.W.codeIn K cd34 "_law_is_number" = true) (k34 : PySem.W.keepIn K (.ref f34) = true)
    (a35 : PySem.W.nsIn K mainGlobals "_law_is_word" = some (some (.ref f35))) (l35 : K.lookup f35 = some ⟨oc35, od35, .func (PySem.W.fnOf "_law_is_word" "_law_is_word" (defArgs s_law_is_word) (defBody s_law_is_word) (defScope s_law_is_word) .none kV35 dc35 pm35 an35 cd35 ct35), sl35⟩) (c35 : PySem.W.codeIn K cd35 "_law_is_word" = true) (k35 : PySem.W.keepIn K (.ref f35) = true)
    (a29 : PySem.W.nsIn K mainGlobals "_law_inner" = some (some (.ref f29))) (l29 : K.lookup f29 = some ⟨oc29, od29, .func (PySem.W.fnOf "_law_inner" "_law_inner" (defArgs s_law_inner) (defBody s_law_inner) (defScope s_law_inner) .none kV29 dc29 pm29 an29 cd29 ct29), sl29⟩) (c29 : PySem.W.codeIn K cd29 "_law_inner" = true) (k29 : PySem.W.keepIn K (.ref f29) = true)
    (a30 : PySem.W.nsIn K mainGlobals "_law_plain" = some (some (.ref f30))) (l30 : K.lookup f30 = some ⟨oc30, od30, .func (PySem.W.fnOf "_law_plain" "_law_plain" (defArgs s_law_plain) (defBody s_law_plain) (defScope s_law_plain) .none kV30 dc30 pm30 an30 cd30 ct30), sl30⟩) (c30 : PySem.W.codeIn K cd30 "_law_plain" = true) (k30 : PySem.W.keepIn K (.ref f30) = true)
    (a4 : PySem.W.nsIn K mainGlobals "is_integer" = some (some (.ref f4))) (l4 : K.lookup f4 = some ⟨oc4, od4, .func (PySem.W.fnOf "is_integer" "is_integer" (defArgs s_is_integer) (defBody s_is_integer) (defScope s_is_integer) .none kV4 dc4 pm4 an4 cd4 ct4), sl4⟩) (c4 : PySem.W.codeIn K cd4 "is_integer" = true) (k4 : PySem.W.keepIn K (.ref f4) = true)
    (a18 : PySem.W.nsIn K mainGlobals "is_word" = some (some (.ref f18))) (l18 : K.lookup f18 = some ⟨oc18, od18, .func (PySem.W.fnOf "is_word" "is_word" (defArgs s_is_word) (defBody s_is_word) (defScope s_is_word) .none kV18 dc18 pm18 an18 cd18 ct18), sl18⟩) (c18 : PySem.W.codeIn K cd18 "is_word" = true) (k18 : PySem.W.keepIn K (.ref f18) = true)
    (a19 : PySem.W.nsIn K mainGlobals "check_word" = some (some (.ref f19))) (l19 : K.lookup f19 = some ⟨oc19, od19, .func (PySem.W.fnOf "check_word" "check_word" (defArgs s_check_word) (defBody s_check_word) (defScope s_check_word) .none kV19 dc19 pm19 an19 cd19 ct19), sl19⟩) (c19 : PySem.W.codeIn K cd19 "check_word" = true) (k19 : PySem.W.keepIn K (.ref f19) = true)
    (a20 : PySem.W.nsIn K mainGlobals "turned_word" = some (some (.ref f20))) (l20 : K.lookup f20 = some ⟨oc20, od20, .func (PySem.W.fnOf "turned_word" "turned_word" (defArgs s_turned_word) (defBody s_turned_word) (defScope s_turned_word) .none kV20 dc20 pm20 an20 cd20 ct20), sl20⟩) (c20 : PySem.W.codeIn K cd20 "turned_word" = true) (k20 : PySem.W.keepIn K (.ref f20) = true)
    (a21 : PySem.W.nsIn K mainGlobals "inverse_word" = some (some (.ref f21))) (l21 : K.lookup f21 = some ⟨oc21, od21, .func (PySem.W.fnOf "inverse_word" "inverse_word" (defArgs s_inverse_word) (defBody s_inverse_word) (defScope s_inverse_word) .none kV21 dc21 pm21 an21 cd21 ct21), sl21⟩) (c21 : PySem.W.codeIn K cd21 "inverse_word" = true) (k21 : PySem.W.keepIn K (.ref f21) = true)
    (a22 : PySem.W.nsIn K mainGlobals "reduced_word" = some (some (.ref f22))) (l22 : K.lookup f22 = some ⟨oc22, od22, .func (PySem.W.fnOf "reduced_word" "reduced_word" (defArgs s_reduced_word) (defBody s_reduced_word) (defScope s_reduced_word) .none kV22 dc22 pm22 an22 cd22 ct22), sl22⟩) (c22 : PySem.W.codeIn K cd22 "reduced_word" = true) (k22 : PySem.W.keepIn K (.ref f22) = true)
    (a6 : PySem.W.nsIn K mainGlobals "is_permutation" = some (some (.ref f6))) (l6 : K.lookup f6 = some ⟨oc6, od6, .func (PySem.W.fnOf "is_permutation" "is_permutation" (defArgs s_is_permutation) (defBody s_is_permutation) (defScope s_is_permutation) .none kV6 dc6 pm6 an6 cd6 ct6), sl6⟩) (c6 : PySem.W.codeIn K cd6 "is_permutation" = true) (k6 : PySem.W.keepIn K (.ref f6) = true)
    (a14 : PySem.W.nsIn K mainGlobals "is_system" = some (some (.ref f14))) (l14 : K.lookup f14 = some ⟨oc14, od14, .func (PySem.W.fnOf "is_system" "is_system" (defArgs s_is_system) (defBody s_is_system) (defScope s_is_system) .none kV14 dc14 pm14 an14 cd14 ct14), sl14⟩) (c14 : PySem.W.codeIn K cd14 "is_system" = true) (k14 : PySem.W.keepIn K (.ref f14) = true)
    (a15 : PySem.W.nsIn K mainGlobals "check_system" = some (some (.ref f15))) (l15 : K.lookup f15 = some ⟨oc15, od15, .func (PySem.W.fnOf "check_system" "check_system" (defArgs s_check_system) (defBody s_check_system) (defScope s_check_system) .none kV15 dc15 pm15 an15 cd15 ct15), sl15⟩) (c15 : PySem.W.codeIn K cd15 "check_system" = true) (k15 : PySem.W.keepIn K (.ref f15) = true)
    (a16 : PySem.W.nsIn K mainGlobals "is_sheet" = some (some (.ref f16))) (l16 : K.lookup f16 = some ⟨oc16, od16, .func (PySem.W.fnOf "is_sheet" "is_sheet" (defArgs s_is_sheet) (defBody s_is_sheet) (defScope s_is_sheet) .none kV16 dc16 pm16 an16 cd16 ct16), sl16⟩) (c16 : PySem.W.codeIn K cd16 "is_sheet" = true) (k16 : PySem.W.keepIn K (.ref f16) = true)
    (a17 : PySem.W.nsIn K mainGlobals "check_sheet" = some (some (.ref f17))) (l17 : K.lookup f17 = some ⟨oc17, od17, .func (PySem.W.fnOf "check_sheet" "check_sheet" (defArgs s_check_sheet) (defBody s_check_sheet) (defScope s_check_sheet) .none kV17 dc17 pm17 an17 cd17 ct17), sl17⟩) (c17 : PySem.W.codeIn K cd17 "check_sheet" = true) (k17 : PySem.W.keepIn K (.ref f17) = true)
    (a24 : PySem.W.nsIn K mainGlobals "led_along" = some (some (.ref f24))) (l24 : K.lookup f24 = some ⟨oc24, od24, .func (PySem.W.fnOf "led_along" "led_along" (defArgs s_led_along) (defBody s_led_along) (defScope s_led_along) .none kV24 dc24 pm24 an24 cd24 ct24), sl24⟩) (c24 : PySem.W.codeIn K cd24 "led_along" = true) (k24 : PySem.W.keepIn K (.ref f24) = true)
    (a7 : PySem.W.nsIn K mainGlobals "check_permutation" = some (some (.ref f7))) (l7 : K.lookup f7 = some ⟨oc7, od7, .func (PySem.W.fnOf "check_permutation" "check_permutation" (defArgs s_check_permutation) (defBody s_check_permutation) (defScope s_check_permutation) .none kV7 dc7 pm7 an7 cd7 ct7), sl7⟩) (c7 : PySem.W.codeIn K cd7 "check_permutation" = true) (k7 : PySem.W.keepIn K (.ref f7) = true)
    (a8 : PySem.W.nsIn K mainGlobals "undone" = some (some (.ref f8))) (l8 : K.lookup f8 = some ⟨oc8, od8, .func (PySem.W.fnOf "undone" "undone" (defArgs s_undone) (defBody s_undone) (defScope s_undone) .none kV8 dc8 pm8 an8 cd8 ct8), sl8⟩) (c8 : PySem.W.codeIn K cd8 "undone" = true) (k8 : PySem.W.keepIn K (.ref f8) = true)
    (a9 : PySem.W.nsIn K mainGlobals "inverse_of" = some (some (.ref f9))) (l9 : K.lookup f9 = some ⟨oc9, od9, .func (PySem.W.fnOf "inverse_of" "inverse_of" (defArgs s_inverse_of) (defBody s_inverse_of) (defScope s_inverse_of) .none kV9 dc9 pm9 an9 cd9 ct9), sl9⟩) (c9 : PySem.W.codeIn K cd9 "inverse_of" = true) (k9 : PySem.W.keepIn K (.ref f9) = true)
    (a23 : PySem.W.nsIn K mainGlobals "letter_tables" = some (some (.ref f23))) (l23 : K.lookup f23 = some ⟨oc23, od23, .func (PySem.W.fnOf "letter_tables" "letter_tables" (defArgs s_letter_tables) (defBody s_letter_tables) (defScope s_letter_tables) .none kV23 dc23 pm23 an23 cd23 ct23), sl23⟩) (c23 : PySem.W.codeIn K cd23 "letter_tables" = true) (k23 : PySem.W.keepIn K (.ref f23) = true)
    (a25 : PySem.W.nsIn K mainGlobals "walk_word" = some (some (.ref f25))) (l25 : K.lookup f25 = some ⟨oc25, od25, .func (PySem.W.fnOf "walk_word" "walk_word" (defArgs s_walk_word) (defBody s_walk_word) (defScope s_walk_word) .none kV25 dc25 pm25 an25 cd25 ct25), sl25⟩) (c25 : PySem.W.codeIn K cd25 "walk_word" = true) (k25 : PySem.W.keepIn K (.ref f25) = true)
    (a26 : PySem.W.nsIn K mainGlobals "word_permutation" = some (some (.ref f26))) (l26 : K.lookup f26 = some ⟨oc26, od26, .func (PySem.W.fnOf "word_permutation" "word_permutation" (defArgs s_word_permutation) (defBody s_word_permutation) (defScope s_word_permutation) .none kV26 dc26 pm26 an26 cd26 ct26), sl26⟩) (c26 : PySem.W.codeIn K cd26 "word_permutation" = true) (k26 : PySem.W.keepIn K (.ref f26) = true)
    (a27 : PySem.W.nsIn K mainGlobals "told_system" = some (some (.ref f27))) (l27 : K.lookup f27 = some ⟨oc27, od27, .func (PySem.W.fnOf "told_system" "told_system" (defArgs s_told_system) (defBody s_told_system) (defScope s_told_system) .none kV27 dc27 pm27 an27 cd27 ct27), sl27⟩) (c27 : PySem.W.codeIn K cd27 "told_system" = true) (k27 : PySem.W.keepIn K (.ref f27) = true)
    (a44 : PySem.W.nsIn K mainGlobals "_law_told" = some (some (.ref f44))) (l44 : K.lookup f44 = some ⟨oc44, od44, .func (PySem.W.fnOf "_law_told" "_law_told" (defArgs s_law_told) (defBody s_law_told) (defScope s_law_told) .none kV44 dc44 pm44 an44 cd44 ct44), sl44⟩) (c44 : PySem.W.codeIn K cd44 "_law_told" = true) (k44 : PySem.W.keepIn K (.ref f44) = true)
    (a47 : PySem.W.nsIn K mainGlobals "_law_bad_hold" = some (some (.ref f47))) (l47 : K.lookup f47 = some ⟨oc47, od47, .func (PySem.W.fnOf "_law_bad_hold" "_law_bad_hold" (defArgs s_law_bad_hold) (defBody s_law_bad_hold) (defScope s_law_bad_hold) .none kV47 dc47 pm47 an47 cd47 ct47), sl47⟩) (c47 : PySem.W.codeIn K cd47 "_law_bad_hold" = true) (k47 : PySem.W.keepIn K (.ref f47) = true)
    (a39 : PySem.W.nsIn K mainGlobals "_law_letters" = some (some (.ref f39))) (l39 : K.lookup f39 = some ⟨oc39, od39, .func (PySem.W.fnOf "_law_letters" "_law_letters" (defArgs s_law_letters) (defBody s_law_letters) (defScope s_law_letters) .none kV39 dc39 pm39 an39 cd39 ct39), sl39⟩) (c39 : PySem.W.codeIn K cd39 "_law_letters" = true) (k39 : PySem.W.keepIn K (.ref f39) = true)
    (a40 : PySem.W.nsIn K mainGlobals "_law_word" = some (some (.ref f40))) (l40 : K.lookup f40 = some ⟨oc40, od40, .func (PySem.W.fnOf "_law_word" "_law_word" (defArgs s_law_word) (defBody s_law_word) (defScope s_law_word) .none kV40 dc40 pm40 an40 cd40 ct40), sl40⟩) (c40 : PySem.W.codeIn K cd40 "_law_word" = true) (k40 : PySem.W.keepIn K (.ref f40) = true)
    (a45 : PySem.W.nsIn K mainGlobals "_law_reduced" = some (some (.ref f45))) (l45 : K.lookup f45 = some ⟨oc45, od45, .func (PySem.W.fnOf "_law_reduced" "_law_reduced" (defArgs s_law_reduced) (defBody s_law_reduced) (defScope s_law_reduced) .none kV45 dc45 pm45 an45 cd45 ct45), sl45⟩) (c45 : PySem.W.codeIn K cd45 "_law_reduced" = true) (k45 : PySem.W.keepIn K (.ref f45) = true)
    (a46 : PySem.W.nsIn K mainGlobals "_law_whole_reduced" = some (some (.ref f46))) (l46 : K.lookup f46 = some ⟨oc46, od46, .func (PySem.W.fnOf "_law_whole_reduced" "_law_whole_reduced" (defArgs s_law_whole_reduced) (defBody s_law_whole_reduced) (defScope s_law_whole_reduced) .none kV46 dc46 pm46 an46 cd46 ct46), sl46⟩) (c46 : PySem.W.codeIn K cd46 "_law_whole_reduced" = true) (k46 : PySem.W.keepIn K (.ref f46) = true)
    (a41 : PySem.W.nsIn K mainGlobals "_law_step" = some (some (.ref f41))) (l41 : K.lookup f41 = some ⟨oc41, od41, .func (PySem.W.fnOf "_law_step" "_law_step" (defArgs s_law_step) (defBody s_law_step) (defScope s_law_step) .none kV41 dc41 pm41 an41 cd41 ct41), sl41⟩) (c41 : PySem.W.codeIn K cd41 "_law_step" = true) (k41 : PySem.W.keepIn K (.ref f41) = true)
    (a42 : PySem.W.nsIn K mainGlobals "_law_walk" = some (some (.ref f42))) (l42 : K.lookup f42 = some ⟨oc42, od42, .func (PySem.W.fnOf "_law_walk" "_law_walk" (defArgs s_law_walk) (defBody s_law_walk) (defScope s_law_walk) .none kV42 dc42 pm42 an42 cd42 ct42), sl42⟩) (c42 : PySem.W.codeIn K cd42 "_law_walk" = true) (k42 : PySem.W.keepIn K (.ref f42) = true)
    (a43 : PySem.W.nsIn K mainGlobals "_law_product" = some (some (.ref f43))) (l43 : K.lookup f43 = some ⟨oc43, od43, .func (PySem.W.fnOf "_law_product" "_law_product" (defArgs s_law_product) (defBody s_law_product) (defScope s_law_product) .none kV43 dc43 pm43 an43 cd43 ct43), sl43⟩) (c43 : PySem.W.codeIn K cd43 "_law_product" = true) (k43 : PySem.W.keepIn K (.ref f43) = true)
    (a48 : PySem.W.nsIn K mainGlobals "law" = some (some (.ref f48))) (l48 : K.lookup f48 = some ⟨oc48, od48, .func (PySem.W.fnOf "law" "law" (defArgs s_law) (defBody s_law) (defScope s_law) .none kV48 dc48 pm48 an48 cd48 ct48), sl48⟩) (c48 : PySem.W.codeIn K cd48 "law" = true) (k48 : PySem.W.keepIn K (.ref f48) = true)
    (z_abs : PySem.W.nsIn K mainGlobals "abs" = some none)
    (z_all : PySem.W.nsIn K mainGlobals "all" = some none)
    (z_bool : PySem.W.nsIn K mainGlobals "bool" = some none)
    (z_enumerate : PySem.W.nsIn K mainGlobals "enumerate" = some none)
    (z_int : PySem.W.nsIn K mainGlobals "int" = some none)
    (z_isinstance : PySem.W.nsIn K mainGlobals "isinstance" = some none)
    (z_len : PySem.W.nsIn K mainGlobals "len" = some none)
    (z_list : PySem.W.nsIn K mainGlobals "list" = some none)
    (z_range : PySem.W.nsIn K mainGlobals "range" = some none)
    (z_str : PySem.W.nsIn K mainGlobals "str" = some none)
    (z_tuple : PySem.W.nsIn K mainGlobals "tuple" = some none)
    (c_MOST_LETTERS : PySem.W.nsIn K mainGlobals "MOST_LETTERS" = some (some (.int 2000 t_MOST_LETTERS)))
    (c_MOST_RANK : PySem.W.nsIn K mainGlobals "MOST_RANK" = some (some (.int 12 t_MOST_RANK)))
    (c_MOST_SHEETS : PySem.W.nsIn K mainGlobals "MOST_SHEETS" = some (some (.int 24 t_MOST_SHEETS)))
    (a2 : PySem.W.nsIn K mainGlobals "Malformed" = some (some (.ref f2))) (q2 : PySem.W.excIn K f2 [.type "ValueError", .type "Exception", .type "BaseException", .type "object"] "ValueError.__new__" = true) (k2 : PySem.W.keepIn K (.ref f2) = true) (b2 : PySem.W.subIn K (.ref f2) (.type "BaseException") = some true) (t2 : PySem.W.typeIn K (.ref f2) = some (.type "type"))
    (i2 : PySem.W.isClsIn K f2 = true)
    (s2_2 : PySem.W.subIn K (.ref f2) (.ref f2) = some true)
    (h_law : ∀ (A : Nat → Addr), ∀ ns : List Int, ns.length ≤ 63 → ∃ st', S_law A [.lst (ns.map D.int)] [] = .ok (.bl true) st') :
    ∃ fd : FuncData, (∀ (s : Shared) (v : Value), BindsTo s fd ⟨[v], []⟩ [("script", v)]) ∧ ∀ base : Heap, K.In base → base.Ns mainGlobals mg → FnOk l.prog w K mg base (L2.CX l.prog w) 9 fa fd ["script"] (spLaw K) := by
  have e := hfa.symm.trans (PySem.W.mg_of X G a48)
  cases e
  have T : Txt K mg (fun i => ([0, 0, f2, 0, f4, 0, f6, f7, f8, f9, 0, 0, 0, 0, f14, f15, f16, f17, f18, f19, f20, f21, f22, f23, f24, f25, f26, f27, 0, f29, f30, f31, f32, f33, f34, f35, f36, f37, f38, f39, f40, f41, f42, f43, f44, f45, f46, f47, fa] : List Addr).getD i 0) (fun i => ([(PySem.W.fnOf "law" "law" (defArgs s_law) (defBody s_law) (defScope s_law) .none kV48 dc48 pm48 an48 cd48 ct48), (PySem.W.fnOf "law" "law" (defArgs s_law) (defBody s_law) (defScope s_law) .none kV48 dc48 pm48 an48 cd48 ct48), (PySem.W.fnOf "law" "law" (defArgs s_law) (defBody s_law) (defScope s_law) .none kV48 dc48 pm48 an48 cd48 ct48), (PySem.W.fnOf "law" "law" (defArgs s_law) (defBody s_law) (defScope s_law) .none kV48 dc48 pm48 an48 cd48 ct48), (PySem.W.fnOf "is_integer" "is_integer" (defArgs s_is_integer) (defBody s_is_integer) (defScope s_is_integer) .none kV4 dc4 pm4 an4 cd4 ct4), (PySem.W.fnOf "law" "law" (defArgs s_law) (defBody s_law) (defScope s_law) .none kV48 dc48 pm48 an48 cd48 ct48), (PySem.W.fnOf "is_permutation" "is_permutation" (defArgs s_is_permutation) (defBody s_is_permutation) (defScope s_is_permutation) .none kV6 dc6 pm6 an6 cd6 ct6), (PySem.W.fnOf "check_permutation" "check_permutation" (defArgs s_check_permutation) (defBody s_check_permutation) (defScope s_check_permutation) .none kV7 dc7 pm7 an7 cd7 ct7), (PySem.W.fnOf "undone" "undone" (defArgs s_undone) (defBody s_undone) (defScope s_undone) .none kV8 dc8 pm8 an8 cd8 ct8), (PySem.W.fnOf "inverse_of" "inverse_of" (defArgs s_inverse_of) (defBody s_inverse_of) (defScope s_inverse_of) .none kV9 dc9 pm9 an9 cd9 ct9), (PySem.W.fnOf "law" "law" (defArgs s_law) (defBody s_law) (defScope s_law) .none kV48 dc48 pm48 an48 cd48 ct48), (PySem.W.fnOf "law" "law" (defArgs s_law) (defBody s_law) (defScope s_law) .none kV48 dc48 pm48 an48 cd48 ct48), (PySem.W.fnOf "law" "law" (defArgs s_law) (defBody s_law) (defScope s_law) .none kV48 dc48 pm48 an48 cd48 ct48), (PySem.W.fnOf "law" "law" (defArgs s_law) (defBody s_law) (defScope s_law) .none kV48 dc48 pm48 an48 cd48 ct48), (PySem.W.fnOf "is_system" "is_system" (defArgs s_is_system) (defBody s_is_system) (defScope s_is_system) .none kV14 dc14 pm14 an14 cd14 ct14), (PySem.W.fnOf "check_system" "check_system" (defArgs s_check_system) (defBody s_check_system) (defScope s_check_system) .none kV15 dc15 pm15 an15 cd15 ct15), (PySem.W.fnOf "is_sheet" "is_sheet" (defArgs s_is_sheet) (defBody s_is_sheet) (defScope s_is_sheet) .none kV16 dc16 pm16 an16 cd16 ct16), (PySem.W.fnOf "check_sheet" "check_sheet" (defArgs s_check_sheet) (defBody s_check_sheet) (defScope s_check_sheet) .none kV17 dc17 pm17 an17 cd17 ct17), (PySem.W.fnOf "is_word" "is_word" (defArgs s_is_word) (defBody s_is_word) (defScope s_is_word) .none kV18 dc18 pm18 an18 cd18 ct18), (PySem.W.fnOf "check_word" "check_word" (defArgs s_check_word) (defBody s_check_word) (defScope s_check_word) .none kV19 dc19 pm19 an19 cd19 ct19), (PySem.W.fnOf "turned_word" "turned_word" (defArgs s_turned_word) (defBody s_turned_word) (defScope s_turned_word) .none kV20 dc20 pm20 an20 cd20 ct20), (PySem.W.fnOf "inverse_word" "inverse_word" (defArgs s_inverse_word) (defBody s_inverse_word) (defScope s_inverse_word) .none kV21 dc21 pm21 an21 cd21 ct21), (PySem.W.fnOf "reduced_word" "reduced_word" (defArgs s_reduced_word) (defBody s_reduced_word) (defScope s_reduced_word) .none kV22 dc22 pm22 an22 cd22 ct22), (PySem.W.fnOf "letter_tables" "letter_tables" (defArgs s_letter_tables) (defBody s_letter_tables) (defScope s_letter_tables) .none kV23 dc23 pm23 an23 cd23 ct23), (PySem.W.fnOf "led_along" "led_along" (defArgs s_led_along) (defBody s_led_along) (defScope s_led_along) .none kV24 dc24 pm24 an24 cd24 ct24), (PySem.W.fnOf "walk_word" "walk_word" (defArgs s_walk_word) (defBody s_walk_word) (defScope s_walk_word) .none kV25 dc25 pm25 an25 cd25 ct25), (PySem.W.fnOf "word_permutation" "word_permutation" (defArgs s_word_permutation) (defBody s_word_permutation) (defScope s_word_permutation) .none kV26 dc26 pm26 an26 cd26 ct26), (PySem.W.fnOf "told_system" "told_system" (defArgs s_told_system) (defBody s_told_system) (defScope s_told_system) .none kV27 dc27 pm27 an27 cd27 ct27), (PySem.W.fnOf "law" "law" (defArgs s_law) (defBody s_law) (defScope s_law) .none kV48 dc48 pm48 an48 cd48 ct48), (PySem.W.fnOf "_law_inner" "_law_inner" (defArgs s_law_inner) (defBody s_law_inner) (defScope s_law_inner) .none kV29 dc29 pm29 an29 cd29 ct29), (PySem.W.fnOf "_law_plain" "_law_plain" (defArgs s_law_plain) (defBody s_law_plain) (defScope s_law_plain) .none kV30 dc30 pm30 an30 cd30 ct30), (PySem.W.fnOf "_law_state" "_law_state" (defArgs s_law_state) (defBody s_law_state) (defScope s_law_state) .none kV31 dc31 pm31 an31 cd31 ct31), (PySem.W.fnOf "_law_take" "_law_take" (defArgs s_law_take) (defBody s_law_take) (defScope s_law_take) .none kV32 dc32 pm32 an32 cd32 ct32), (PySem.W.fnOf "_law_says" "_law_says" (defArgs s_law_says) (defBody s_law_says) (defScope s_law_says) .none kV33 dc33 pm33 an33 cd33 ct33), (PySem.W.fnOf "_law_is_number" "_law_is_number" (defArgs s_law_is_number) (defBody s_law_is_number) (defScope s_law_is_number) .none kV34 dc34 pm34 an34 cd34 ct34), (PySem.W.fnOf "_law_is_word" "_law_is_word" (defArgs s_law_is_word) (defBody s_law_is_word) (defScope s_law_is_word) .none kV35 dc35 pm35 an35 cd35 ct35), (PySem.W.fnOf "_law_inverse" "_law_inverse" (defArgs s_law_inverse) (defBody s_law_inverse) (defScope s_law_inverse) .none kV36 dc36 pm36 an36 cd36 ct36), (PySem.W.fnOf "_law_permutation" "_law_permutation" (defArgs s_law_permutation) (defBody s_law_permutation) (defScope s_law_permutation) .none kV37 dc37 pm37 an37 cd37 ct37), (PySem.W.fnOf "_law_system" "_law_system" (defArgs s_law_system) (defBody s_law_system) (defScope s_law_system) .none kV38 dc38 pm38 an38 cd38 ct38), (PySem.W.fnOf "_law_letters" "_law_letters" (defArgs s_law_letters) (defBody s_law_letters) (defScope s_law_letters) .none kV39 dc39 pm39 an39 cd39 ct39), (PySem.W.fnOf "_law_word" "_law_word" (defArgs s_law_word) (defBody s_law_word) (defScope s_law_word) .none kV40 dc40 pm40 an40 cd40 ct40), (PySem.W.fnOf "_law_step" "_law_step" (defArgs s_law_step) (defBody s_law_step) (defScope s_law_step) .none kV41 dc41 pm41 an41 cd41 ct41), (PySem.W.fnOf "_law_walk" "_law_walk" (defArgs s_law_walk) (defBody s_law_walk) (defScope s_law_walk) .none kV42 dc42 pm42 an42 cd42 ct42), (PySem.W.fnOf "_law_product" "_law_product" (defArgs s_law_product) (defBody s_law_product) (defScope s_law_product) .none kV43 dc43 pm43 an43 cd43 ct43), (PySem.W.fnOf "_law_told" "_law_told" (defArgs s_law_told) (defBody s_law_told) (defScope s_law_told) .none kV44 dc44 pm44 an44 cd44 ct44), (PySem.W.fnOf "_law_reduced" "_law_reduced" (defArgs s_law_reduced) (defBody s_law_reduced) (defScope s_law_reduced) .none kV45 dc45 pm45 an45 cd45 ct45), (PySem.W.fnOf "_law_whole_reduced" "_law_whole_reduced" (defArgs s_law_whole_reduced) (defBody s_law_whole_reduced) (defScope s_law_whole_reduced) .none kV46 dc46 pm46 an46 cd46 ct46), (PySem.W.fnOf "_law_bad_hold" "_law_bad_hold" (defArgs s_law_bad_hold) (defBody s_law_bad_hold) (defScope s_law_bad_hold) .none kV47 dc47 pm47 an47 cd47 ct47), (PySem.W.fnOf "law" "law" (defArgs s_law) (defBody s_law) (defScope s_law) .none kV48 dc48 pm48 an48 cd48 ct48)] : List FuncData).getD i (PySem.W.fnOf "law" "law" (defArgs s_law) (defBody s_law) (defScope s_law) .none kV48 dc48 pm48 an48 cd48 ct48)) :=
    { m_law_state := PySem.W.mg_of X G a31,
      F_law_state := fun_mk (st := s_law_state) l31 c31 k31,
      m_law_take := PySem.W.mg_of X G a32,
      F_law_take := fun_mk (st := s_law_take) l32 c32 k32,
      m_law_inverse := PySem.W.mg_of X G a36,
      F_law_inverse := fun_mk (st := s_law_inverse) l36 c36 k36,
      m_law_permutation := PySem.W.mg_of X G a37,
      F_law_permutation := fun_mk (st := s_law_permutation) l37 c37 k37,
      m_law_system := PySem.W.mg_of X G a38,
      F_law_system := fun_mk (st := s_law_system) l38 c38 k38,
      m_law_says := PySem.W.mg_of X G a33,
      F_law_says := fun_mk (st := s_law_says) l33 c33 k33,
      m_law_is_number := PySem.W.mg_of X G a34,
      F_law_is_number := fun_mk (st := s_law_is_number) l34 c34 k34,
      m_law_is_word := PySem.W.mg_of X G a35,
      F_law_is_word := fun_mk (st := s_law_is_word) l35 c35 k35,
      m_law_inner := PySem.W.mg_of X G a29,
      F_law_inner := fun_mk (st := s_law_inner) l29 c29 k29,
      m_law_plain := PySem.W.mg_of X G a30,
      F_law_plain := fun_mk (st := s_law_plain) l30 c30 k30,
      m_is_integer := PySem.W.mg_of X G a4,
      F_is_integer := fun_mk (st := s_is_integer) l4 c4 k4,
      m_is_word := PySem.W.mg_of X G a18,
      F_is_word := fun_mk (st := s_is_word) l18 c18 k18,
      m_check_word := PySem.W.mg_of X G a19,
      F_check_word := fun_mk (st := s_check_word) l19 c19 k19,
      m_turned_word := PySem.W.mg_of X G a20,
      F_turned_word := fun_mk (st := s_turned_word) l20 c20 k20,
      m_inverse_word := PySem.W.mg_of X G a21,
      F_inverse_word := fun_mk (st := s_inverse_word) l21 c21 k21,
      m_reduced_word := PySem.W.mg_of X G a22,
      F_reduced_word := fun_mk (st := s_reduced_word) l22 c22 k22,
      m_is_permutation := PySem.W.mg_of X G a6,
      F_is_permutation := fun_mk (st := s_is_permutation) l6 c6 k6,
      m_is_system := PySem.W.mg_of X G a14,
      F_is_system := fun_mk (st := s_is_system) l14 c14 k14,
      m_check_system := PySem.W.mg_of X G a15,
      F_check_system := fun_mk (st := s_check_system) l15 c15 k15,
      m_is_sheet := PySem.W.mg_of X G a16,
      F_is_sheet := fun_mk (st := s_is_sheet) l16 c16 k16,
      m_check_sheet := PySem.W.mg_of X G a17,
      F_check_sheet := fun_mk (st := s_check_sheet) l17 c17 k17,
      m_led_along := PySem.W.mg_of X G a24,
      F_led_along := fun_mk (st := s_led_along) l24 c24 k24,
      m_check_permutation := PySem.W.mg_of X G a7,
      F_check_permutation := fun_mk (st := s_check_permutation) l7 c7 k7,
      m_undone := PySem.W.mg_of X G a8,
      F_undone := fun_mk (st := s_undone) l8 c8 k8,
      m_inverse_of := PySem.W.mg_of X G a9,
      F_inverse_of := fun_mk (st := s_inverse_of) l9 c9 k9,
      m_letter_tables := PySem.W.mg_of X G a23,
      F_letter_tables := fun_mk (st := s_letter_tables) l23 c23 k23,
      m_walk_word := PySem.W.mg_of X G a25,
      F_walk_word := fun_mk (st := s_walk_word) l25 c25 k25,
      m_word_permutation := PySem.W.mg_of X G a26,
      F_word_permutation := fun_mk (st := s_word_permutation) l26 c26 k26,
      m_told_system := PySem.W.mg_of X G a27,
      F_told_system := fun_mk (st := s_told_system) l27 c27 k27,
      m_law_told := PySem.W.mg_of X G a44,
      F_law_told := fun_mk (st := s_law_told) l44 c44 k44,
      m_law_bad_hold := PySem.W.mg_of X G a47,
      F_law_bad_hold := fun_mk (st := s_law_bad_hold) l47 c47 k47,
      m_law_letters := PySem.W.mg_of X G a39,
      F_law_letters := fun_mk (st := s_law_letters) l39 c39 k39,
      m_law_word := PySem.W.mg_of X G a40,
      F_law_word := fun_mk (st := s_law_word) l40 c40 k40,
      m_law_reduced := PySem.W.mg_of X G a45,
      F_law_reduced := fun_mk (st := s_law_reduced) l45 c45 k45,
      m_law_whole_reduced := PySem.W.mg_of X G a46,
      F_law_whole_reduced := fun_mk (st := s_law_whole_reduced) l46 c46 k46,
      m_law_step := PySem.W.mg_of X G a41,
      F_law_step := fun_mk (st := s_law_step) l41 c41 k41,
      m_law_walk := PySem.W.mg_of X G a42,
      F_law_walk := fun_mk (st := s_law_walk) l42 c42 k42,
      m_law_product := PySem.W.mg_of X G a43,
      F_law_product := fun_mk (st := s_law_product) l43 c43 k43,
      m_law := PySem.W.mg_of X G a48,
      F_law := fun_mk (st := s_law) l48 c48 k48,
      z_abs := PySem.W.mg_none_of X G z_abs,
      z_all := PySem.W.mg_none_of X G z_all,
      z_bool := PySem.W.mg_none_of X G z_bool,
      z_enumerate := PySem.W.mg_none_of X G z_enumerate,
      z_int := PySem.W.mg_none_of X G z_int,
      z_isinstance := PySem.W.mg_none_of X G z_isinstance,
      z_len := PySem.W.mg_none_of X G z_len,
      z_list := PySem.W.mg_none_of X G z_list,
      z_range := PySem.W.mg_none_of X G z_range,
      z_str := PySem.W.mg_none_of X G z_str,
      z_tuple := PySem.W.mg_none_of X G z_tuple,
      c_MOST_LETTERS := ⟨_, PySem.W.mg_of X G c_MOST_LETTERS⟩,
      c_MOST_RANK := ⟨_, PySem.W.mg_of X G c_MOST_RANK⟩,
      c_MOST_SHEETS := ⟨_, PySem.W.mg_of X G c_MOST_SHEETS⟩,
      m_Malformed := PySem.W.mg_of X G a2,
      q_Malformed := q2,
      k_Malformed := k2,
      b_Malformed := b2,
      t_Malformed := t2,
      ap := apart1 (exm_own b2 i2 t2 b2 s2_2) }
  exact ⟨(PySem.W.fnOf "law" "law" (defArgs s_law) (defBody s_law) (defScope s_law) .none kV48 dc48 pm48 an48 cd48 ct48), fun s v => .of_eq rfl, fun base _ _ => law_imp (d_law T) (h_law _)⟩
end K21

set_option Elab.async false
set_option linter.all false
set_option maxRecDepth 100000
set_option maxHeartbeats 4000000
namespace K21
open PySem L2 Fx
variable {A : Nat → Addr} {d : Nat}
theorem is_integer_eq {x : D} {st : Store} (h : pl x = true) : S_is_integer A [x] st = .ok (.bl (isI x)) st := by
  rw [S_is_integer_eq]
  refine gc_ok [] (runF_rt ?_) (by simp [WfD])
  cases x <;> simp_all [m_is_integer, pl, isI, N_is_integer]
theorem is_permutation_eq {x : D} {st : Store} (h : pl x = true) (hx : ∀ xs, x = .tup xs → (∀ y ∈ xs, pl y = true) ∧ xs.length < sizeLine) : S_is_permutation A [x] st = .ok (.bl (isP x)) st := by
  cases x with
  | tup xs =>
    obtain ⟨h1, h2⟩ := hx xs rfl
    have key := forS_ret (g := gN 2) (b := B_is_permutation_0 A)
      (P := fun ds τ st' => ∃ seen τ2, τ = [some (.tup xs), some (.loc st.length), τ2] ∧ st' = st ++ [.dk (kvI seen)] ∧ (∀ y ∈ ds, pl y = true) ∧ seen.length + ds.length < sizeLine ∧ permL xs.length seen ds = permL xs.length [] xs)
      (Q := fun d st' => ∃ g, d = .bl false ∧ st' = st ++ g ∧ permL xs.length [] xs = false)
      (fun y ys τ st' ⟨seen, τ2, e1, e2, hp, hl, hq⟩ => by
        subst e1 e2
        refine ⟨_, rfl, ?_⟩
        have hy := hp y List.mem_cons_self
        cases y with
        | int i =>
          have q : fDIn true (.int i) (.loc st.length) (st ++ [.dk (kvI seen)]) = .ok (.bl (decide (i ∈ seen))) (st ++ [.dk (kvI seen)]) := fDIn_dk (by simp)
          by_cases c : i < 0 ∨ (xs.length : Int) ≤ i ∨ i ∈ seen
          · rw [permL, if_pos c] at hq
            refine .inr ⟨.bl false, _, ?_, [.dk (kvI seen)], rfl, rfl, hq.symm⟩
            by_cases c1 : i < 0
            · simp [b_is_permutation_0, is_integer_eq hy, isI, c1]
            · by_cases c2 : (xs.length : Int) ≤ i
              · simp [b_is_permutation_0, is_integer_eq hy, isI, c1, c2]
              · have c3 : i ∈ seen := (c.resolve_left c1).resolve_left c2
                simp [b_is_permutation_0, is_integer_eq hy, isI, c1, c2, q, c3]
          · have c1 : ¬ i < 0 := by omega
            have c2 : ¬ (xs.length : Int) ≤ i := by omega
            have c3 : i ∉ seen := fun z => c (.inr (.inr z))
            rw [permL, if_neg c] at hq
            have q2 : fSetD (.loc st.length) (.int i) (.bl true) (st ++ [.dk (kvI seen)]) = some (st ++ [.dk (kvI (seen ++ [i]))]) := by
              rw [fSetD_dk (by simp) c3 (by simp only [List.length_cons] at hl; omega)]; simp
            refine .inl ⟨_, _, .inl ?_, seen ++ [i], some (.int i), rfl, rfl, fun y hy => hp y (List.mem_cons_of_mem _ hy), by simp only [List.length_cons, List.length_append, List.length_nil] at hl ⊢; omega, hq⟩
            simp [b_is_permutation_0, is_integer_eq hy, isI, c1, c2, q, c3, q2]
        | _ =>
          refine .inr ⟨.bl false, _, ?_, [.dk (kvI seen)], rfl, rfl, ?_⟩
          all_goals first
          | (simp [pl] at hy; done)
          | (simp [b_is_permutation_0, is_integer_eq hy, isI]; done)
          | (rw [← hq]; simp [permL]; done)) xs [some (.tup xs), some (.loc st.length), none] (st ++ [.dk []]) ⟨[], none, rfl, rfl, h1, by simpa using h2, rfl⟩
    rcases key with ⟨τ', st', e, seen, τ2, e1, e2, _, _, hq⟩ | ⟨x, st', e, g, rfl, e2, hq⟩
    · subst e2
      rw [S_is_permutation_eq]
      refine gc_ok [.dk (kvI seen)] (runF_rt ?_) (by simp [WfD])
      have hq' : isP (.tup xs) = true := by rw [isP, ← hq, permL]
      simp [m_is_permutation, N_is_permutation, e, hq']
    · subst e2
      rw [S_is_permutation_eq]
      refine gc_ok g (runF_rt ?_) (by simp [WfD])
      have hq' : isP (.tup xs) = false := by rw [isP, hq]
      simp [m_is_permutation, N_is_permutation, e, hq']
  | _ =>
    first
    | (simp [pl] at h; done)
    | (rw [S_is_permutation_eq]; refine gc_ok [] (runF_rt ?_) (by simp [WfD]); simp [m_is_permutation, N_is_permutation, isP])
theorem take_eq {s t m : Int} {r : Store} (hs : 0 ≤ s) (hm : 0 < m) (hm2 : m < 1000000000) : ∃ v s' t' : Int, S_law_take A [.loc 0, .int m] (stt s t :: r) = .ok (.int v) (stt s' t' :: r) ∧ 0 ≤ v ∧ v < m ∧ 0 ≤ s' := by
  rw [S_law_take_eq]
  by_cases c : 0 < s
  · refine ⟨s % m, s / m, t, runF_rt ?_, Int.emod_nonneg _ (by omega), Int.emod_lt_of_pos _ hm, Int.ediv_nonneg hs (by omega)⟩
    simp [m_law_take, N_law_take, ix0, ix1, set0, set1, c, hm, divFits_of hm hm2]
  · refine ⟨((t * 48271 + 11) % 2147483647 / 7) % m, s, (t * 48271 + 11) % 2147483647, runF_rt ?_, Int.emod_nonneg _ (by omega), Int.emod_lt_of_pos _ hm, hs⟩
    simp [m_law_take, N_law_take, ix0, ix1, set0, set1, c, hm, divFits_of, mulFits_r]
theorem take_nat {s t : Int} {n : Nat} {r : Store} (hs : 0 ≤ s) (hn : 0 < n) (hn2 : n ≤ 1000) : ∃ (v : Nat) (s' t' : Int), S_law_take A [.loc 0, .int (n : Int)] (stt s t :: r) = .ok (.int (v : Int)) (stt s' t' :: r) ∧ v < n ∧ 0 ≤ s' := by
  obtain ⟨v, s', t', e, h0, h1, h2⟩ := take_eq (A := A) (s := s) (t := t) (m := n) (r := r) hs (by omega) (by omega)
  refine ⟨v.toNat, s', t', ?_, by omega, h2⟩
  rw [e, show ((v.toNat : Nat) : Int) = v by omega]
theorem state_eq (ns : List Int) : ∃ s t : Int, S_law_state A [.lst (ns.map D.int)] [] = .ok (.loc 0) [stt s t] ∧ 0 ≤ s := by
  have key := forS_ind (g := gN 3) (b := B_law_state_0 A)
    (P := fun ds τ st' => ∃ (s t : Int) (τ0 τ3 : Option D) (ns' : List Int), τ = [τ0, some (.int s), some (.int t), τ3] ∧ st' = [] ∧ ds = ns'.map D.int ∧ 0 ≤ s)
    (fun y ys τ st' ⟨s, t, τ0, τ3, ns', e1, e2, e3, hs⟩ => by
      subst e1 e2
      cases ns' with
      | nil => simp at e3
      | cons n ns' =>
        simp only [List.map_cons, List.cons.injEq] at e3
        obtain ⟨rfl, rfl⟩ := e3
        refine ⟨_, rfl, _, _, .inl ?_, s * 1000003 + (if n < 0 then -n else n), (t * 48271 + n) % 2147483647, τ0, some (.int n), ns', rfl, rfl, rfl, by split <;> omega⟩
        simp [b_law_state_0, mulFits_r])
    (cutD (ns.map D.int) none (some 63)) [some (.lst (ns.map D.int)), some (.int 0), some (.int 1), none] [] ⟨0, 1, _, _, ns.take 63, rfl, rfl, by
      unfold cutD
      rw [HT.sIx_none, List.drop_zero, show (some (63 : Int)) = some ((63 : Nat) : Int) from rfl, HT.sIx_nat, Nat.sub_zero, List.map_take]
      rw [List.length_map]
      rcases Nat.le_total 63 ns.length with h | h
      · rw [Nat.min_eq_left h]
      · rw [Nat.min_eq_right h, List.take_of_length_le (by simp), List.take_of_length_le (by simpa using h)], by omega⟩
  obtain ⟨τ', st', e, s, t, τ0, τ3, ns', e1, e2, _, hs⟩ := key
  subst e1 e2
  rw [S_law_state_eq]
  refine ⟨s, t, runF_rt ?_, hs⟩
  simp [m_law_state, N_law_state, e]
theorem product_eq {p q : Pm d} {st : Store} (hd : d ≤ 1000) : S_law_product A [tp p, tp q] st = .ok (tp (p * q)) st := by
  rw [S_law_product_eq]
  refine gc_ok [] (runF_rt ?_) (wf_lf _ (lf_tp _))
  have e := comp_pq (p := p) (q := q) (m := E_law_product_0 A) (g := gN 2) (vs := [2]) (τ := [some (tp p), some (tp q), none]) (st := st) hd fun i hi => ⟨_, rfl, by simp [e_law_product_0, tp, lD, atI_tp q (p.lt hi)]⟩
  simp [m_law_product, N_law_product]
  simp [tp, lD] at e ⊢
  rw [e]
  simp
theorem undone_eq {p : Pm d} {st : Store} (hd : d ≤ 1000) : S_undone A [tp p] st = .ok (tp p.inv) st := by
  obtain ⟨τ', ⟨τ2, τ3, rfl⟩, e⟩ := inv_loop (g := gT (gsCons (gN 2) (gsCons (gN 3) gsNil))) (b := B_undone_0 A) (F := fun i => D.tup [nD i, nD (p.f i)]) (P := fun τ => ∃ τ2 τ3, τ = [some (tp p), some (.loc st.length), τ2, τ3]) p st (fun i hi τ ⟨τ2, τ3, e⟩ => by
    subst e
    refine ⟨_, rfl, _, ⟨some (nD i), some (nD (p.f i)), rfl⟩, ?_⟩
    have := set_last (st := st) (v := nD i) (k := p.f i) (xs := invF p i) (by rw [invF_len]; exact p.lt hi)
    simp [b_undone_0, this]) d 0 (by omega) [some (tp p), some (.loc st.length), none, none] ⟨none, none, rfl⟩
  rw [← List.range_eq_range', invF_zero, invF_all, ← enum_tp] at e
  rw [S_undone_eq]
  refine gc_ok [.lst (p.inv.list.map nD)] (runF_rt ?_) (wf_lf _ (lf_tp _))
  have z : szFits d = true := szFits_of hd
  have hl : p.list.length = d := p.len
  have z3 : w63 (d : Int) = true := w63_of (by omega) (by omega)
  simp [tp, lD] at e
  simp [m_undone, N_undone, tp, lD, hl, z, z3, e]
  rw [x_tupleLoc (xs := p.inv.list.map nD) (by simp)]
  rfl
theorem law_inverse_eq {p : Pm d} {st : Store} (hd : d ≤ 1000) : S_law_inverse A [tp p] st = .ok (tp p.inv) st := by
  obtain ⟨τ', ⟨τ2, rfl⟩, e⟩ := inv_loop (g := gN 2) (b := B_law_inverse_0 A) (F := nD) (P := fun τ => ∃ τ2, τ = [some (tp p), some (.loc st.length), τ2]) p st (fun i hi τ ⟨τ2, e⟩ => by
    subst e
    refine ⟨_, rfl, _, ⟨some (nD i), rfl⟩, ?_⟩
    have := set_last (st := st) (v := nD i) (k := p.f i) (xs := invF p i) (by rw [invF_len]; exact p.lt hi)
    simp [b_law_inverse_0, tp, lD, atI_tp p hi, this]) d 0 (by omega) [some (tp p), some (.loc st.length), none] ⟨none, rfl⟩
  have c : compS (gN 2) mYes e_law_inverse_0 [2] (p.list.map nD) [some (tp p), none, none] st [] = .ok (List.replicate d (.int 0)) st := by
    rw [compS_map (f := fun _ => .int 0)]
    · rw [List.nil_append, List.map_map]; exact congrArg (Rs.ok · st) (List.eq_replicate_iff.mpr ⟨by simp [Pm.len], fun b hb => by obtain ⟨_, _, rfl⟩ := List.mem_map.mp hb; rfl⟩)
    · intro x _; exact ⟨_, rfl, rfl, by simp [e_law_inverse_0]⟩
    · simpa [Pm.len] using small hd
  rw [← List.range_eq_range', invF_zero, invF_all, ← range_nD] at e
  rw [S_law_inverse_eq]
  refine gc_ok [.lst (p.inv.list.map nD)] (runF_rt ?_) (wf_lf _ (lf_tp _))
  have hl : p.list.length = d := p.len
  have z2 : w62 (d : Int) = true := w62_of (by omega) (by omega)
  simp [tp, lD] at e c
  simp [m_law_inverse, N_law_inverse, tp, lD, hl, z2, e, c]
  rw [x_tupleLoc (xs := p.inv.list.map nD) (by simp)]
  rfl
theorem perm_ok {p : Pm d} {st : Store} (hd : d ≤ 1000) : S_is_permutation A [tp p] st = .ok (.bl true) st := by
  rw [is_permutation_eq (A := A) (x := tp p) (st := st) rfl, isP_tp]
  intro xs e
  have e2 : xs = p.list.map nD := by injection e with e; exact e.symm
  subst e2
  refine ⟨fun y hy => ?_, ?_⟩
  · obtain ⟨n, _, rfl⟩ := List.mem_map.mp hy; rfl
  · rw [List.length_map, p.len]; exact small1000 hd
theorem check_perm_ok {p : Pm d} {st : Store} (hd : d ≤ 1000) : S_check_permutation A [tp p] st = .ok .non st := by
  rw [S_check_permutation_eq]
  refine gc_ok [] (runF_nx (τ' := [some (tp p)]) ?_) (by simp [WfD])
  simp [m_check_permutation, N_check_permutation, perm_ok hd]
theorem inverse_of_eq {p : Pm d} {st : Store} (hd : d ≤ 1000) : S_inverse_of A [tp p] st = .ok (tp p.inv) st := by
  rw [S_inverse_of_eq]
  refine gc_ok [] (runF_rt ?_) (wf_lf _ (lf_tp _))
  simp [m_inverse_of, N_inverse_of, check_perm_ok hd, undone_eq hd]
theorem permutation_eq {s t : Int} (hs : 0 ≤ s) (hd : d ≤ 1000) : ∃ (p : Pm d) (s' t' : Int), S_law_permutation A [.loc 0, .int (d : Int)] [stt s t] = .ok (tp p) [stt s' t'] ∧ 0 ≤ s' := by
  have key := sWhile_ind (t := C_law_permutation_0 A) (b := B_law_permutation_0 A)
    (P := fun n τ st => ∃ (s t : Int) (left found : List Nat), τ = [some (.loc 0), some (.int (d : Int)), some (.loc 1), some (.loc 2)] ∧ st = [stt s t, .lst (left.map nD), .lst (found.map nD)] ∧ 0 ≤ s ∧ left.length = n ∧ (found ++ left).Perm (List.range d))
    (R := fun τ st => ∃ (s t : Int) (found : List Nat), τ = [some (.loc 0), some (.int (d : Int)), some (.loc 1), some (.loc 2)] ∧ st = [stt s t, .lst [], .lst (found.map nD)] ∧ 0 ≤ s ∧ found.Perm (List.range d))
    (fun n τ st ⟨s, t, left, found, e1, e2, hs, hl, hp⟩ => by
      subst e1 e2
      have hl1 : 0 < left.length := by omega
      have hb : found.length + left.length = d := by have := hp.length_eq; simpa using this
      obtain ⟨v, s', t', e, hv, hs'⟩ := take_nat (A := A) (s := s) (t := t) (n := left.length) (r := [.lst (left.map nD), .lst (found.map nD)]) hs hl1 (by omega)
      have hx : left[v]? = some left[v] := List.getElem?_eq_getElem hv
      have q1 := x_popAt (st := [stt s' t', .lst (left.map nD), .lst (found.map nD)]) (n := 1) (xs := left.map nD) (k := v) (d := nD left[v]) rfl (by rw [List.getElem?_map, hx]; rfl) (by omega)
      have q2 := x_app (st := [stt s' t', .lst ((left.map nD).eraseIdx v), .lst (found.map nD)]) (n := 2) (xs := found.map nD) (d := nD left[v]) rfl (small1000 (by simp; omega))
      have ql := x_lenLoc (st := [stt s t, .lst (left.map nD), .lst (found.map nD)]) (i := 1) (xs := left.map nD) rfl
      refine ⟨[stt s t, .lst (left.map nD), .lst (found.map nD)], _, [stt s' t', .lst ((left.eraseIdx v).map nD), .lst ((found ++ [left[v]]).map nD)], ?_, .inl ?_, s', t', left.eraseIdx v, found ++ [left[v]], rfl, rfl, hs', ?_, ?_⟩
      · simp [c_law_permutation_0, ql]; omega
      · simp [b_law_permutation_0, Fx.listOf, ql, e, q1, q2]
        rw [erase_map]
      · rw [List.length_eraseIdx_of_lt hv]; omega
      · rw [List.append_assoc]; exact ((erase_perm hx).append_left found).trans hp)
    (fun τ st ⟨s, t, left, found, e1, e2, hs, hl, hp⟩ => by
      subst e1 e2
      have : left = [] := List.length_eq_zero_iff.mp hl
      subst this
      have ql := x_lenLoc (st := [stt s t, .lst [], .lst (found.map nD)]) (i := 1) (xs := []) rfl
      refine ⟨[stt s t, .lst [], .lst (found.map nD)], ?_, s, t, found, rfl, rfl, hs, by simpa using hp⟩
      simp [c_law_permutation_0, ql])
    d [some (.loc 0), some (.int (d : Int)), some (.loc 1), some (.loc 2)] [stt s t, .lst ((List.range d).map nD), .lst []] ⟨s, t, List.range d, [], rfl, rfl, hs, by simp, by simp⟩
  obtain ⟨τ', st', e, s', t', found, e1, e2, hs', hp⟩ := key
  subst e1 e2
  refine ⟨Pm.ofList found hp, s', t', ?_, hs'⟩
  rw [S_law_permutation_eq]
  refine gc_ok' [.lst [], .lst (found.map nD)] (runF_rt ?_) rfl ?_ (wf_lf _ (lf_tp _))
  · have z : rgFits 0 (d : Int) = true := rgFits_of (by omega) (by omega) (by omega) (by omega)
    have qt := x_tupleLoc (st := [stt s' t', .lst [], .lst (found.map nD)]) (i := 2) (xs := found.map nD) rfl
    simp [m_law_permutation, N_law_permutation, z, range_nD, e, qt]
    simp [tp, lD, Pm.ofList_list]
  · intro i o h
    cases i with
    | zero => simp at h; subst h; simp [WfO, WfDs, WfD]
    | succ i => simp at h
theorem perm_any {x : D} {st : Store} (h : okV x) : S_is_permutation A [x] st = .ok (.bl (isP x)) st :=
  is_permutation_eq h.1 fun xs e => ⟨(h.2 xs e).1, small1000 (h.2 xs e).2⟩
theorem inner_int {n : Nat} {i : Int} {st : Store} : S_law_inner A (n + 1) [.int i] st = .ok (.int i) st := by
  rw [S_law_inner_eq]
  refine gc_ok [] (runF_rt ?_) (by simp [WfD])
  simp [m_law_inner, N_law_inner]
theorem inner_tup {n : Nat} {xs : List D} {st : Store} (h : ∀ x ∈ xs, S_law_inner A n [x] st = .ok x st) (hl : xs.length ≤ 1000) (hf : lf (.tup xs) = true) : S_law_inner A (n + 1) [.tup xs] st = .ok (.tup xs) st := by
  rw [S_law_inner_eq]
  refine gc_ok [] (runF_rt ?_) (wf_lf _ hf)
  have k1 : compS (gN 1) mYes (e_law_inner_0 (S_law_inner A n)) [1] xs [some (.tup xs), none] st [] = .ok xs st := by
    rw [compS_map (f := fun x => x)]
    · simp
    · intro x hx
      exact ⟨_, rfl, rfl, by simp [e_law_inner_0, h x hx]⟩
    · exact small (by simpa using hl)
  simp [m_law_inner, N_law_inner, k1]
end K21

set_option Elab.async false
set_option linter.all false
set_option maxRecDepth 100000
set_option maxHeartbeats 4000000
namespace K21
open PySem L2 Fx
variable {A : Nat → Addr} {d : Nat}
/-! ### letters, words -/
def letB (x : D) (k : Nat) : Bool := match x with
  | .int i => decide (1 ≤ i.natAbs ∧ i.natAbs ≤ k)
  | _ => false
def wordB (x : D) (k : Nat) : Bool := match x with
  | .tup xs => decide (xs.length ≤ 2000) && xs.all fun x => letB x k
  | _ => false
theorem letter_el {x : D} {k : Nat} {st : Store} {τ0 : Option D} (h : pl x = true) : e_is_word_0 (S_is_integer A) [τ0, some (.int (k : Int)), some x] st = .ok (.bl (letB x k)) st := by
  cases x with
  | int i =>
    have ea : (if i < 0 then -i else i) = (i.natAbs : Int) := by split <;> omega
    by_cases c : 1 ≤ i.natAbs
    · have c' : (1 : Int) ≤ (i.natAbs : Int) := by omega
      have e : decide ((i.natAbs : Int) ≤ (k : Int)) = decide (1 ≤ i.natAbs ∧ i.natAbs ≤ k) := by
        by_cases z : i.natAbs ≤ k
        · rw [decide_eq_true (show (i.natAbs : Int) ≤ (k : Int) by omega), decide_eq_true ⟨c, z⟩]
        · rw [decide_eq_false (show ¬ (i.natAbs : Int) ≤ (k : Int) by omega), decide_eq_false (by omega)]
      obtain ⟨m, hm⟩ : ∃ m : Int, m = (i.natAbs : Int) := ⟨_, rfl⟩
      rw [← hm] at ea c' e
      simp [e_is_word_0, is_integer_eq h, isI, ea, c']
      rw [letB, ← e]
    · have c' : ¬ (1 : Int) ≤ (i.natAbs : Int) := by omega
      have e : letB (.int i) k = false := by simp [letB, c]
      obtain ⟨m, hm⟩ : ∃ m : Int, m = (i.natAbs : Int) := ⟨_, rfl⟩
      rw [← hm] at ea c'
      simp [e_is_word_0, is_integer_eq h, isI, ea, c', e]
  | _ =>
    first
    | (simp [pl] at h; done)
    | (simp [e_is_word_0, is_integer_eq h, isI, letB])
def okW (x : D) : Prop := pl x = true ∧ ∀ xs, x = .tup xs → ∀ y ∈ xs, pl y = true
theorem is_word_eq {x : D} {k : Nat} {st : Store} (h : okW x) (hk : k ≤ 12) : S_is_word A [x, .int (k : Int)] st = .ok (.bl (wordB x k)) st := by
  have hi := is_integer_eq (A := A) (x := .int (k : Int)) (st := st) rfl
  have k1 : (0 : Int) ≤ (k : Int) := by omega
  have k2 : (k : Int) ≤ 12 := by omega
  rw [S_is_word_eq]
  refine gc_ok [] (runF_rt ?_) (by simp [WfD])
  obtain ⟨hp, hx⟩ := h
  cases x with
  | tup xs =>
    by_cases c : xs.length ≤ 2000
    · have c' : ¬ (2000 : Int) < (xs.length : Int) := by omega
      have e1 : compS (gN 2) mYes (e_is_word_0 (S_is_integer A)) [2] xs [some (.tup xs), some (.int (k : Int)), none] st [] = .ok ((xs.map fun x => letB x k).map D.bl) st := by
        rw [compS_map (f := fun x => .bl (letB x k))]
        · simp
        · intro x hy
          exact ⟨_, rfl, rfl, letter_el (hx xs rfl x hy)⟩
        · rw [PySem.sizeLine_eq]; simp; omega
      have a2 : fAll [.lst ((xs.map fun x => letB x k).map D.bl)] st = .ok (.bl (xs.all fun x => letB x k)) st := by
        unfold fAll
        rw [x_onBls, List.all_map]; rfl
      have ew : wordB (.tup xs) k = xs.all fun x => letB x k := by rw [wordB, decide_eq_true c, Bool.true_and]
      rw [ew]
      obtain ⟨L2, hL2⟩ : ∃ L2, L2 = (xs.map fun x => letB x k).map D.bl := ⟨_, rfl⟩
      rw [← hL2] at e1 a2
      simp [m_is_word, N_is_word, hi, isI, k1, k2, c', e1, a2]
    · have c' : (2000 : Int) < (xs.length : Int) := by omega
      have ew : wordB (.tup xs) k = false := by rw [wordB, decide_eq_false c]; rfl
      simp [m_is_word, N_is_word, hi, isI, k1, k2, c', ew]
  | _ =>
    first
    | (simp [pl] at hp; done)
    | (simp [m_is_word, N_is_word, hi, isI, k1, k2, wordB])
def rankB (x : D) : Bool := match x with
  | .int k => decide (0 ≤ k ∧ k ≤ 12)
  | _ => false
theorem is_word_rank {x y : D} {st : Store} (h : pl y = true) (hr : rankB y = false) : S_is_word A [x, y] st = .er ⟨A 2, none⟩ st := by
  have hi := is_integer_eq (A := A) (x := y) (st := st) h
  rw [S_is_word_eq]
  refine gc_er [] (runF_er (τ' := [some x, some y, none]) ?_)
  cases y with
  | int k =>
    by_cases c : 0 ≤ k
    · have c2 : ¬ k ≤ 12 := fun z => by simp [rankB, c, z] at hr
      simp [m_is_word, N_is_word, hi, isI, c, c2]
    · simp [m_is_word, N_is_word, hi, isI, c]
  | _ =>
    first
    | (simp [pl] at h; done)
    | (simp [m_is_word, N_is_word, hi, isI])
theorem check_word_of {x y : D} {b : Bool} {st : Store} (h : S_is_word A [x, y] st = .ok (.bl b) st) : S_check_word A [x, y] st = if b = true then .ok .non st else .er ⟨A 2, none⟩ st := by
  rw [S_check_word_eq]
  cases b with
  | true => exact gc_ok [] (runF_nx (τ' := [some x, some y]) (by simp [m_check_word, N_check_word, h])) (by simp [WfD])
  | false => exact gc_er [] (runF_er (τ' := [some x, some y]) (by simp [m_check_word, N_check_word, h]))
theorem check_word_er {x y : D} {st : Store} (h : S_is_word A [x, y] st = .er ⟨A 2, none⟩ st) : S_check_word A [x, y] st = .er ⟨A 2, none⟩ st := by
  rw [S_check_word_eq]
  exact gc_er [] (runF_er (τ' := [some x, some y]) (by simp [m_check_word, N_check_word, h]))
theorem okW_wD {is : List Int} : okW (wD is) := ⟨rfl, fun xs e y hy => by
  have e2 : xs = is.map D.int := by injection e with e; exact e.symm
  subst e2
  obtain ⟨n, _, rfl⟩ := List.mem_map.mp hy; rfl⟩
structure Wd (k : Nat) (is : List Int) : Prop where
  len : is.length ≤ 2000
  let_ : ∀ i ∈ is, 1 ≤ i.natAbs ∧ i.natAbs ≤ k
theorem wordB_wD {k : Nat} {is : List Int} (h : Wd k is) : wordB (wD is) k = true := by
  simp only [wordB, wD, List.length_map, decide_eq_true h.len, Bool.true_and, List.all_map, List.all_eq_true]
  intro i hi
  exact decide_eq_true (h.let_ i hi)
theorem is_word_ok {k : Nat} {is : List Int} {st : Store} (h : Wd k is) (hk : k ≤ 12) : S_is_word A [wD is, .int (k : Int)] st = .ok (.bl true) st := by rw [is_word_eq okW_wD hk, wordB_wD h]
theorem check_word_ok {k : Nat} {is : List Int} {st : Store} (h : Wd k is) (hk : k ≤ 12) : S_check_word A [wD is, .int (k : Int)] st = .ok .non st := by rw [check_word_of (is_word_ok h hk), if_pos rfl]
theorem check_word_bad {x : D} {k : Nat} {st : Store} (h : okW x) (hk : k ≤ 12) (hb : wordB x k = false) : S_check_word A [x, .int (k : Int)] st = .er ⟨A 2, none⟩ st := by
  rw [check_word_of (is_word_eq h hk), hb]; rfl
/-! ### the opposite word -/
def bk (is : List Int) : List Int := is.reverse.map fun i => -i
theorem turned_eq {is : List Int} {st : Store} (hl : is.length ≤ 5000) : S_turned_word A [wD is] st = .ok (wD (bk is)) st := by
  rw [S_turned_word_eq]
  refine gc_ok [] (runF_rt ?_) (wf_lf _ lf_wD)
  have g := compS_mapL (g := gN 1) (t := mYes) (m := e_turned_word_0) (vs := [1]) (τ := [some (wD is), none]) (st := st) (h := D.int) (f := fun i => D.int (-i)) is.reverse [] (fun i _ => ⟨_, rfl, rfl, by simp [e_turned_word_0]⟩) (by rw [PySem.sizeLine_eq]; simp; omega)
  rw [List.nil_append, List.map_reverse] at g
  simp [wD] at g
  simp [m_turned_word, N_turned_word, wD, g, bk]
theorem inverse_word_ok {k : Nat} {is : List Int} {st : Store} (h : Wd k is) (hk : k ≤ 12) : S_inverse_word A [wD is, .int (k : Int)] st = .ok (wD (bk is)) st := by
  rw [S_inverse_word_eq]
  refine gc_ok [] (runF_rt ?_) (wf_lf _ lf_wD)
  simp [m_inverse_word, N_inverse_word, check_word_ok h hk, turned_eq (A := A) (is := is) (by have := h.len; omega)]
theorem inverse_word_er {x y : D} {st : Store} (h : S_check_word A [x, y] st = .er ⟨A 2, none⟩ st) : S_inverse_word A [x, y] st = .er ⟨A 2, none⟩ st := by
  rw [S_inverse_word_eq]
  exact gc_er [] (runF_er (τ' := [some x, some y]) (by simp [m_inverse_word, N_inverse_word, h]))
end K21

set_option Elab.async false
set_option linter.all false
set_option maxRecDepth 100000
set_option maxHeartbeats 4000000
namespace Fx
open PySem L2
theorem sWhile_lt {t : SB} {b : SS} {P : Nat → En → Store → Prop} {R : En → Store → Prop} (step : ∀ n τ st, P n τ st → (∃ st1, t τ st = .ok false st1 ∧ R τ st1) ∨ ∃ st1 τ2 st2 m, t τ st = .ok true st1 ∧ (b τ st1 = .nx τ2 st2 ∨ b τ st1 = .ct τ2 st2) ∧ m < n ∧ P m τ2 st2) (n : Nat) :
    ∀ τ st, P n τ st → ∃ τ' st', sWhile t b τ st = .nx τ' st' ∧ R τ' st' := by
  induction n using Nat.strongRecOn with
  | _ n ih =>
    intro τ st h
    rcases step n τ st h with ⟨st1, e, r⟩ | ⟨st1, τ2, st2, m, e1, e2, hm, h2⟩
    · exact ⟨τ, st1, by rw [sWhile_eq, e]; rfl, r⟩
    · obtain ⟨τ', st', e3, r⟩ := ih m hm τ2 st2 h2
      refine ⟨τ', st', ?_, r⟩
      rw [sWhile_eq, e1]
      rcases e2 with e2 | e2 <;> · simp only [Rs.go_ok, if_true]; rw [e2]; exact e3
theorem eqv_ints : ∀ {a b : List Int}, PyData.eqvAll (toPys (a.map D.int)) (toPys (b.map D.int)) = decide (a = b)
  | [], [] => by simp [toPys, PyData.eqvAll]
  | [], _ :: _ => by simp [toPys, PyData.eqvAll]
  | _ :: _, [] => by simp [toPys, PyData.eqvAll]
  | x :: a, y :: b => by
    simp only [List.map_cons, toPys, toPy, PyData.eqvAll, PyData.eqv, eqv_ints (a := a) (b := b)]
    by_cases h : x = y
    · subst h; simp
    · simp [h]
theorem eqD_wD {a b : List Int} : eqD (wD a) (wD b) = decide (a = b) := by
  unfold eqD wD
  simp only [toPy, PyData.eqv]
  exact eqv_ints
theorem fl_wD {a : List Int} : Fl 1 (wD a) := Fl.tup fun x hx => by
  obtain ⟨n, _, rfl⟩ := List.mem_map.mp hx; exact .int
theorem fNe_wD {a b : List Int} {st : Store} : fNe (wD a) (wD b) st = .ok (.bl (!decide (a = b))) st := by
  unfold fNe
  rw [if_pos ⟨fl_wD.sh, fl_wD.sh⟩, eqD_wD]
theorem fEq_wD {a b : List Int} {st : Store} : fEq (wD a) (wD b) st = .ok (.bl (decide (a = b))) st := by
  unfold fEq
  rw [if_pos ⟨fl_wD.sh, fl_wD.sh⟩, eqD_wD]
end Fx
namespace K21
open PySem L2 Fx
variable {A : Nat → Addr} {d : Nat}
/-! ### free reduction -/
def Red : List Int → Prop
  | a :: b :: r => a ≠ -b ∧ Red (b :: r)
  | _ => True
def push : List Int → Int → List Int
  | t :: r, x => if t = -x then r else x :: t :: r
  | [], x => [x]
theorem Red.tail {a : Int} {l : List Int} (h : Red (a :: l)) : Red l := by
  cases l with
  | nil => trivial
  | cons b r => exact h.2
theorem push_red {rs : List Int} (h : Red rs) (x : Int) : Red (push rs x) := by
  cases rs with
  | nil => trivial
  | cons t r =>
    rw [push]
    by_cases c : t = -x
    · rw [if_pos c]; exact h.tail
    · rw [if_neg c]; exact ⟨fun z => c (by omega), h⟩
theorem push2 {rs : List Int} (h : Red rs) {x y : Int} (e : x = -y) : push (push rs x) y = rs := by
  cases rs with
  | nil => simp [push, e]
  | cons t r =>
    by_cases c : t = -x
    · rw [push, if_pos c]
      cases r with
      | nil => rw [push]; simp; omega
      | cons u r =>
        have := h.1
        rw [push, if_neg (by omega)]
        simp; omega
    · rw [push, if_neg c, push, if_pos e]
theorem fold_red : ∀ (w : List Int) {rs : List Int}, Red rs → Red (w.foldl push rs)
  | [], _, h => h
  | x :: w, _, h => fold_red w (push_red h x)
theorem fold_cancel (l r : List Int) {x y : Int} (e : x = -y) {rs : List Int} (h : Red rs) : (l ++ x :: y :: r).foldl push rs = (l ++ r).foldl push rs := by
  rw [List.foldl_append, List.foldl_cons, List.foldl_cons, push2 (fold_red l h) e, List.foldl_append]
def red (w : List Int) : List Int := (w.foldl push []).reverse
theorem red_cancel (l r : List Int) {x y : Int} (e : x = -y) : red (l ++ x :: y :: r) = red (l ++ r) := by
  unfold red; rw [fold_cancel l r e (show Red [] from trivial)]
theorem fold_own : ∀ (w rs : List Int), Red w → (∀ t r x v, rs = t :: r → w = x :: v → t ≠ -x) → w.foldl push rs = w.reverse ++ rs
  | [], rs, _, _ => by simp
  | x :: w, rs, h, hc => by
    have e : push rs x = x :: rs := by
      cases rs with
      | nil => rfl
      | cons t r => rw [push, if_neg (hc t r x w rfl rfl)]
    rw [List.foldl_cons, e, fold_own w (x :: rs) h.tail]
    · simp
    · intro t r y v e1 e2
      cases e1
      subst e2
      exact h.1
theorem red_own {w : List Int} (h : Red w) : red w = w := by
  unfold red
  rw [fold_own w [] h (fun t r x v e => by cases e)]
  simp
/-- one pass -/
def lp : List Int → Nat → List Int
  | w, 0 => w
  | w, n + 1 => lp (if n + 1 < w.length ∧ w[n]? = (w[n + 1]?).map (fun y => -y) then w.take n ++ w.drop (n + 2) else w) n
theorem cut_at {w : List Int} {n : Nat} (h : n + 1 < w.length) : w = w.take n ++ w[n] :: w[n + 1] :: w.drop (n + 2) := by
  rw [← List.drop_eq_getElem_cons h, ← List.drop_eq_getElem_cons (by omega), List.take_append_drop]
theorem lp_red : ∀ (n : Nat) (w : List Int), red (lp w n) = red w ∧ (lp w n).length ≤ w.length
  | 0, w => ⟨rfl, Nat.le_refl _⟩
  | n + 1, w => by
    rw [lp]
    by_cases c : n + 1 < w.length ∧ w[n]? = (w[n + 1]?).map (fun y => -y)
    · rw [if_pos c]
      obtain ⟨h1, h2⟩ := lp_red n (w.take n ++ w.drop (n + 2))
      obtain ⟨c1, c2⟩ := c
      rw [List.getElem?_eq_getElem c1, List.getElem?_eq_getElem (by omega), Option.map_some, Option.some.injEq] at c2
      have e := red_cancel (w.take n) (w.drop (n + 2)) c2
      rw [← cut_at c1] at e
      refine ⟨h1.trans e.symm, Nat.le_trans h2 ?_⟩
      simp; omega
    · rw [if_neg c]
      exact lp_red n w
theorem lp_same : ∀ (n : Nat) (w : List Int), lp w n = w → ∀ m, m < n → m + 1 < w.length → w[m]? ≠ (w[m + 1]?).map (fun y => -y)
  | 0, _, _, m, hm, _ => absurd hm (Nat.not_lt_zero _)
  | n + 1, w, h, m, hm, hl => by
    rw [lp] at h
    by_cases c : n + 1 < w.length ∧ w[n]? = (w[n + 1]?).map (fun y => -y)
    · rw [if_pos c] at h
      have := (lp_red n (w.take n ++ w.drop (n + 2))).2
      rw [h] at this
      simp at this; omega
    · rw [if_neg c] at h
      by_cases e : m = n
      · subst e; exact fun z => c ⟨hl, z⟩
      · exact lp_same n w h m (by omega) hl
theorem red_of : ∀ (w : List Int), (∀ m, m + 1 < w.length → w[m]? ≠ (w[m + 1]?).map (fun y => -y)) → Red w
  | [], _ => trivial
  | [_], _ => trivial
  | a :: b :: r, h => ⟨fun z => h 0 (by simp) (by simp [z]), red_of (b :: r) fun m hm => by
    have := h (m + 1) (by simp at hm ⊢; omega)
    simpa using this⟩
def once (w : List Int) : List Int := lp w (w.length - 1)
theorem once_red (w : List Int) : red (once w) = red w := (lp_red _ w).1
theorem once_len (w : List Int) : (once w).length ≤ w.length := (lp_red _ w).2
theorem once_same {w : List Int} (h : once w = w) : red w = w := red_own (red_of w fun m hm => lp_same _ w h m (by omega) hm)
theorem once_lt {w : List Int} (h : once w ≠ w) : (once w).length < w.length := by
  refine Nat.lt_of_le_of_ne (once_len w) fun e => h ?_
  have g : ∀ (n : Nat) (w : List Int), (lp w n).length = w.length → lp w n = w := by
    intro n
    induction n with
    | zero => intro w _; rfl
    | succ n ih =>
      intro w e
      rw [lp] at e ⊢
      by_cases c : n + 1 < w.length ∧ w[n]? = (w[n + 1]?).map (fun y => -y)
      · rw [if_pos c] at e
        have := (lp_red n (w.take n ++ w.drop (n + 2))).2
        rw [e] at this
        have := c.1
        simp at *; omega
      · rw [if_neg c] at e ⊢
        exact ih w e
  exact g _ w e
end K21

set_option Elab.async false
set_option linter.all false
set_option maxRecDepth 100000
set_option maxHeartbeats 4000000
namespace Fx
open PySem L2
theorem x_pop {st : Store} {n : Nat} {xs : List D} {t : D} (h : st[n]? = some (.lst (xs ++ [t]))) : fPop (.loc n) [] st = .ok t (st.set n (.lst xs)) := by
  simp only [fPop, onLoc, h]
  simp
end Fx
namespace K21
open PySem L2 Fx
variable {A : Nat → Addr} {d : Nat}
theorem reduced_ok {k : Nat} {is : List Int} {st : Store} (h : Wd k is) (hk : k ≤ 12) : S_reduced_word A [wD is, .int (k : Int)] st = .ok (wD (red is)) st := by
  have hl := h.len
  have key := forS_ind (g := gN 3) (b := B_reduced_word_0 A)
    (P := fun ds τ st' => ∃ (rs js : List Int) (τ3 : Option D), τ = [some (wD is), some (.int (k : Int)), some (.loc st.length), τ3] ∧ st' = st ++ [.lst (rs.reverse.map D.int)] ∧ ds = js.map D.int ∧ rs.length + js.length ≤ 2000 ∧ js.foldl push rs = is.foldl push [])
    (fun y ys τ st' ⟨rs, js, τ3, e1, e2, e3, hn, hf⟩ => by
      subst e1 e2
      cases js with
      | nil => simp at e3
      | cons x js =>
        simp only [List.map_cons, List.cons.injEq] at e3
        obtain ⟨rfl, rfl⟩ := e3
        simp only [List.length_cons] at hn
        cases rs with
        | nil =>
          have ql := x_lenLoc (st := st ++ [.lst []]) (i := st.length) (xs := []) (by simp)
          have qa := x_app (st := st ++ [.lst []]) (n := st.length) (xs := []) (d := .int x) (by simp) (by rw [PySem.sizeLine_eq]; simp)
          refine ⟨_, rfl, _, st ++ [.lst (([x] : List Int).reverse.map D.int)], .inl ?_, [x], js, some (.int x), rfl, rfl, rfl, by simp; omega, hf⟩
          simp [b_reduced_word_0, ql, qa, Fx.listOf]
        | cons t r =>
          obtain ⟨xs, hxs⟩ : ∃ xs, xs = r.reverse.map D.int := ⟨_, rfl⟩
          have eL : (t :: r).reverse.map D.int = xs ++ [.int t] := by rw [hxs]; simp
          have hxl : xs.length = r.length := by rw [hxs]; simp
          simp only [List.length_cons] at hn
          rw [eL]
          have ql := x_lenLoc (st := st ++ [.lst (xs ++ [.int t])]) (i := st.length) (xs := xs ++ [.int t]) (by simp)
          have qi := x_ixLoc (st := st ++ [.lst (xs ++ [.int t])]) (i := st.length) (xs := xs ++ [.int t]) (k := -1) (by simp)
          rw [L2.atI_last] at qi
          have c0 : (0 : Int) < (xs.length : Int) + 1 := by omega
          by_cases c : t = -x
          · have qp := x_pop (st := st ++ [.lst (xs ++ [.int t])]) (n := st.length) (xs := xs) (t := .int t) (by simp)
            refine ⟨_, rfl, _, st ++ [.lst (r.reverse.map D.int)], .inl ?_, r, js, some (.int x), rfl, rfl, rfl, by omega, by rw [List.foldl_cons, push, if_pos c] at hf; exact hf⟩
            have hf2 : r.reverse.map D.int = xs := hxs.symm
            subst c
            rw [hf2]
            simp [b_reduced_word_0, ql, qi, qp, Fx.listOf, c0]
          · have qa := x_app (st := st ++ [.lst (xs ++ [.int t])]) (n := st.length) (xs := xs ++ [.int t]) (d := .int x) (by simp) (by rw [PySem.sizeLine_eq]; simp [hxl]; omega)
            refine ⟨_, rfl, _, st ++ [.lst ((x :: t :: r).reverse.map D.int)], .inl ?_, x :: t :: r, js, some (.int x), rfl, rfl, rfl, by simp; omega, by rw [List.foldl_cons, push, if_neg c] at hf; exact hf⟩
            have eL2 : (x :: t :: r).reverse.map D.int = xs ++ [.int t] ++ [.int x] := by rw [hxs]; simp
            rw [eL2]
            simp [b_reduced_word_0, ql, qi, qa, Fx.listOf, c0, c])
    (is.map D.int) [some (wD is), some (.int (k : Int)), some (.loc st.length), none] (st ++ [.lst []]) ⟨[], is, none, rfl, rfl, rfl, by simpa using hl, rfl⟩
  obtain ⟨τ', st', e, rs, js, τ3, e1, e2, e3, hn, hf⟩ := key
  subst e1 e2
  have : js = [] := by cases js with
    | nil => rfl
    | cons a b => simp at e3
  subst this
  simp only [List.foldl_nil] at hf
  have er : red is = rs.reverse := by rw [red, ← hf]
  rw [S_reduced_word_eq, er]
  refine gc_ok [.lst (rs.reverse.map D.int)] (runF_rt ?_) (wf_lf _ lf_wD)
  have qt := x_tupleLoc (st := st ++ [.lst (rs.reverse.map D.int)]) (i := st.length) (xs := rs.reverse.map D.int) (by simp)
  obtain ⟨WS, hWS⟩ : ∃ WS, WS = is.map D.int := ⟨_, rfl⟩
  have eW : wD is = .tup WS := by rw [hWS]; rfl
  have hc := check_word_ok (A := A) (st := st) h hk
  rw [eW] at e hc ⊢
  rw [← hWS] at e
  obtain ⟨LL, hLL⟩ : ∃ LL, LL = rs.reverse.map D.int := ⟨_, rfl⟩
  have eT : wD rs.reverse = .tup LL := by rw [hLL]; rfl
  rw [← hLL] at e qt ⊢
  rw [eT]
  simp [m_reduced_word, N_reduced_word, hc, e, qt]
theorem reduced_er {x y : D} {st : Store} (h : S_check_word A [x, y] st = .er ⟨A 2, none⟩ st) : S_reduced_word A [x, y] st = .er ⟨A 2, none⟩ st := by
  rw [S_reduced_word_eq]
  exact gc_er [] (runF_er (τ' := [some x, some y, none, none]) (by simp [m_reduced_word, N_reduced_word, h]))
theorem law_reduced_eq {w : List Int} {st : Store} (hl : w.length ≤ 900) : S_law_reduced A [wD w] st = .ok (wD (once w)) st := by
  have key := sWhile_lt (t := C_law_reduced_0 A) (b := B_law_reduced_0 A)
    (P := fun n τ st' => ∃ (word : List Int) (at_ : Int), τ = [some (wD w), some (.lst (word.map D.int)), some (.int at_)] ∧ st' = st ∧ (at_ = (n : Int) - 1 ∨ (n = 0 ∧ at_ < 0)) ∧ lp word n = once w ∧ word.length ≤ 900 ∧ n ≤ 900)
    (R := fun τ st' => ∃ at_ : Int, τ = [some (wD w), some (.lst ((once w).map D.int)), some (.int at_)] ∧ st' = st)
    (fun n τ st' ⟨word, at_, e1, e2, ha, hp, hw, hn⟩ => by
      subst e1 e2
      cases n with
      | zero =>
        have c : ¬ (0 : Int) ≤ at_ := by omega
        rw [lp] at hp
        exact .inl ⟨st', by simp [c_law_reduced_0, c], at_, by rw [hp], rfl⟩
      | succ n =>
        have ea : at_ = (n : Int) := by omega
        subst ea
        have c : (0 : Int) ≤ (n : Int) := by omega
        refine .inr ⟨st', ?_⟩
        by_cases c1 : n + 1 < word.length
        · have c1' : (n : Int) + 1 < (word.length : Int) := by omega
          have g1 : atI (word.map D.int) (n : Int) = some (.int word[n]) := atI_map (List.getElem?_eq_getElem (by omega))
          have g2 : atI (word.map D.int) ((n : Int) + 1) = some (.int word[n + 1]) := by
            rw [show ((n : Int) + 1) = ((n + 1 : Nat) : Int) by omega]
            exact atI_map (List.getElem?_eq_getElem c1)
          by_cases c2 : word[n] = -word[n + 1]
          · have s1 : cutD (word.map D.int) none (some (n : Int)) = (word.take n).map D.int := by
              rw [cut_hi (by simp; omega), List.map_take]
            have s2 : cutD (word.map D.int) (some ((n : Int) + 2)) none = (word.drop (n + 2)).map D.int := by
              rw [show ((n : Int) + 2) = ((n + 2 : Nat) : Int) by omega, cut_lo (by simp; omega), List.map_drop]
            have z : szFits (min n word.length + (word.length - (n + 2))) = true := szFits_of (by omega)
            refine ⟨[some (wD w), some (.lst ((word.take n ++ word.drop (n + 2)).map D.int)), some (.int ((n : Int) - 1))], st', n, by simp [c_law_reduced_0, c], .inl ?_, by omega, _, _, rfl, rfl, .inl rfl, ?_, by simp; omega, by omega⟩
            · simp [b_law_reduced_0, c1', g1, g2, c2, s1, s2, z]
            · rw [← hp, lp, if_pos ⟨c1, by rw [List.getElem?_eq_getElem (by omega), List.getElem?_eq_getElem c1, Option.map_some, c2]⟩]
          · refine ⟨[some (wD w), some (.lst (word.map D.int)), some (.int ((n : Int) - 1))], st', n, by simp [c_law_reduced_0, c], .inl ?_, by omega, _, _, rfl, rfl, .inl rfl, ?_, hw, by omega⟩
            · simp [b_law_reduced_0, c1', g1, g2, c2]
            · rw [← hp, lp, if_neg (fun z => c2 (by
                have := z.2
                rw [List.getElem?_eq_getElem (by omega), List.getElem?_eq_getElem c1, Option.map_some, Option.some.injEq] at this
                exact this))]
        · have c1' : ¬ (n : Int) + 1 < (word.length : Int) := by omega
          refine ⟨[some (wD w), some (.lst (word.map D.int)), some (.int ((n : Int) - 1))], st', n, by simp [c_law_reduced_0, c], .inl ?_, by omega, _, _, rfl, rfl, .inl rfl, ?_, hw, by omega⟩
          · simp [b_law_reduced_0, c1']
          · rw [← hp, lp, if_neg (fun z => c1 z.1)])
    (w.length - 1) [some (wD w), some (.lst (w.map D.int)), some (.int ((w.length : Int) - 2))] st ⟨w, _, rfl, rfl, by omega, rfl, hl, by omega⟩
  obtain ⟨τ', st', e, at_, e1, e2⟩ := key
  subst e1 e2
  rw [S_law_reduced_eq]
  refine gc_ok [] (runF_rt ?_) (wf_lf _ lf_wD)
  have ei : fList [wD w] st' = .ok (w.map D.int) st' := rfl
  simp [m_law_reduced, N_law_reduced, ei, e]
  rfl
theorem whole_eq {w : List Int} {st : Store} (hl : w.length ≤ 900) : S_law_whole_reduced A [wD w] st = .ok (wD (red w)) st := by
  have key := sWhile_lt (t := C_law_whole_reduced_0 A) (b := B_law_whole_reduced_0 A)
    (P := fun n τ st' => ∃ v : List Int, τ = [some (wD v)] ∧ st' = st ∧ v.length = n ∧ red v = red w ∧ v.length ≤ 900)
    (R := fun τ st' => τ = [some (wD (red w))] ∧ st' = st)
    (fun n τ st' ⟨v, e1, e2, hn, hr, hv⟩ => by
      subst e1 e2
      have q := law_reduced_eq (A := A) (st := st') hv
      by_cases c : once v = v
      · refine .inl ⟨st', by simp [c_law_whole_reduced_0, q, fNe_wD, c], ?_, rfl⟩
        rw [← hr, once_same c]
      · refine .inr ⟨st', _, st', (once v).length, by simp [c_law_whole_reduced_0, q, fNe_wD, c], .inl (by simp [b_law_whole_reduced_0, q]), by have := once_lt c; omega, once v, rfl, rfl, rfl, by rw [once_red, hr], by have := once_len v; omega⟩)
    w.length [some (wD w)] st ⟨w, rfl, rfl, rfl, rfl, hl⟩
  obtain ⟨τ', st', e, e1, e2⟩ := key
  subst e1 e2
  rw [S_law_whole_reduced_eq]
  refine gc_ok [] (runF_rt ?_) (wf_lf _ lf_wD)
  simp [m_law_whole_reduced, N_law_whole_reduced, e]
end K21

set_option Elab.async false
set_option linter.all false
set_option maxRecDepth 100000
set_option maxHeartbeats 4000000
namespace K21
open PySem L2 Fx
variable {A : Nat → Addr} {d : Nat}
/-! ### systems -/
def sysD (ps : List (Pm d)) : D := .tup [.int (d : Int), rD ps]
structure Sys (ps : List (Pm d)) : Prop where
  few : d ≤ 24
  rank : ps.length ≤ 12
theorem is_system_ok {ps : List (Pm d)} {st : Store} (h : Sys ps) : S_is_system A [sysD ps] st = .ok (.bl true) st := by
  have hi := is_integer_eq (A := A) (x := .int (d : Int)) (st := st) rfl
  have hd := h.few
  have hr := h.rank
  have c1 : (0 : Int) ≤ (d : Int) := by omega
  have c2 : (d : Int) ≤ 24 := by omega
  have c3 : ¬ (12 : Int) < (ps.length : Int) := by omega
  have k1 : compS (gN 3) mYes (e_is_system_0 (S_is_permutation A)) [3] (ps.map tp) [some (sysD ps), some (.int (d : Int)), some (rD ps), none] st [] = .ok (ps.map fun _ => D.bl true) st := by
    rw [compS_mapL (f := fun _ => D.bl true)]
    · simp
    · intro p _
      have ql : fLen [tp p] st = .ok (.int (d : Int)) st := by simp [tp, lD, p.len]
      exact ⟨_, rfl, rfl, by simp [e_is_system_0, perm_ok (A := A) (p := p) (st := st) (by omega), ql]⟩
    · exact small (by simp; omega)
  have a1 : fAll [.lst (ps.map fun _ => D.bl true)] st = .ok (.bl true) st := by
    unfold fAll
    rw [x_onBlsF (g := fun _ => true)]
    simp
  obtain ⟨XS, hX⟩ : ∃ XS, XS = ps.map tp := ⟨_, rfl⟩
  obtain ⟨YS, hY⟩ : ∃ YS, YS = ps.map fun _ => D.bl true := ⟨_, rfl⟩
  have hl : XS.length = ps.length := by rw [hX]; simp
  rw [sysD, rD, ← hX, ← hY] at k1
  rw [← hY] at a1
  rw [S_is_system_eq, sysD, rD, ← hX]
  refine gc_ok [] (runF_rt ?_) (by simp [WfD])
  simp [m_is_system, N_is_system, hi, isI, c1, c2, c3, hl, k1, a1]
theorem check_system_of {x : D} {b : Bool} {st : Store} (h : S_is_system A [x] st = .ok (.bl b) st) : S_check_system A [x] st = if b = true then .ok .non st else .er ⟨A 2, none⟩ st := by
  rw [S_check_system_eq]
  cases b with
  | true => exact gc_ok [] (runF_nx (τ' := [some x]) (by simp [m_check_system, N_check_system, h])) (by simp [WfD])
  | false => exact gc_er [] (runF_er (τ' := [some x]) (by simp [m_check_system, N_check_system, h]))
theorem check_system_ok {ps : List (Pm d)} {st : Store} (h : Sys ps) : S_check_system A [sysD ps] st = .ok .non st := by rw [check_system_of (is_system_ok h), if_pos rfl]
/-! ### the letters' tables -/
def tabL : List (Pm d) → Nat → List (Key × D)
  | [], _ => []
  | p :: r, j => (.inl ((j : Int) + 1), tp p) :: (.inl (-((j : Int) + 1)), tp p.inv) :: tabL r (j + 1)
theorem tabL_snoc (p : Pm d) : ∀ (ps : List (Pm d)) (j : Nat), tabL (ps ++ [p]) j = tabL ps j ++ [(.inl (((j + ps.length : Nat) : Int) + 1), tp p), (.inl (-(((j + ps.length : Nat) : Int) + 1)), tp p.inv)]
  | [], j => by simp [tabL]
  | q :: ps, j => by
    have e : j + 1 + ps.length = j + (ps.length + 1) := by omega
    simp only [List.cons_append, tabL, tabL_snoc p ps (j + 1), List.length_cons, e]
theorem tabL_any {i : Int} : ∀ (ps : List (Pm d)) (j : Nat), (i.natAbs ≤ j ∨ j + ps.length < i.natAbs) → ((tabL ps j).any fun kv => decide (kv.1 = Sum.inl i)) = false
  | [], _, _ => rfl
  | p :: ps, j, h => by
    simp only [List.length_cons] at h
    have e := tabL_any (i := i) ps (j + 1) (by omega)
    have n1 : ¬ ((j : Int) + 1 = i) := by omega
    have n2 : ¬ (-((j : Int) + 1) = i) := by omega
    simp only [tabL, List.any_cons, Sum.inl.injEq, n1, n2, decide_false, Bool.false_or]
    exact e
def act (ps : List (Pm d)) (i : Int) : Pm d := if 0 < i then ps.getD (i.natAbs - 1) Pm.one else (ps.getD (i.natAbs - 1) Pm.one).inv
theorem tabL_val {i : Int} : ∀ (ps : List (Pm d)) (j : Nat), j < i.natAbs → i.natAbs ≤ j + ps.length → valD (tabL ps j) (.inl i) = some (tp (if 0 < i then ps.getD (i.natAbs - 1 - j) Pm.one else (ps.getD (i.natAbs - 1 - j) Pm.one).inv))
  | [], j, h1, h2 => by simp at h2; omega
  | p :: ps, j, h1, h2 => by
    simp only [List.length_cons] at h2
    by_cases e : i.natAbs = j + 1
    · have e0 : i.natAbs - 1 - j = 0 := by omega
      rw [e0]
      by_cases c : 0 < i
      · have n1 : (j : Int) + 1 = i := by omega
        simp [valD, tabL, n1, c]
      · have n1 : ¬ ((j : Int) + 1 = i) := by omega
        have n2 : -((j : Int) + 1) = i := by omega
        simp only [valD, tabL, List.find?_cons, Sum.inl.injEq, n1, n2, decide_false, decide_true, if_neg c]
        simp
    · have n1 : ¬ ((j : Int) + 1 = i) := by omega
      have n2 : ¬ (-((j : Int) + 1) = i) := by omega
      have q := tabL_val (i := i) ps (j + 1) (by omega) (by omega)
      have e1 : i.natAbs - 1 - j = (i.natAbs - 1 - (j + 1)) + 1 := by omega
      rw [e1]
      simp only [List.getD_cons_succ]
      rw [← q]
      simp only [valD, tabL, List.find?_cons, Sum.inl.injEq, n1, n2, decide_false]
theorem putD_new {kvs : List (Key × D)} {k : Key} {v : D} (h : (kvs.any fun kv => decide (kv.1 = k)) = false) : putD kvs k v = kvs ++ [(k, v)] := by
  unfold putD
  rw [if_neg (by rw [h]; simp)]
theorem tabL_len : ∀ (ps : List (Pm d)) (j : Nat), (tabL ps j).length = 2 * ps.length
  | [], _ => rfl
  | p :: ps, j => by simp [tabL, tabL_len ps (j + 1)]; omega
theorem setD_at {st : Store} {kvs : List (Key × D)} {i : Int} {v : D} (h : (kvs.any fun kv => decide (kv.1 = Sum.inl i)) = false) (hl : kvs.length ≤ 500) : fSetD (.loc st.length) (.int i) v (st ++ [.dk kvs]) = some (st ++ [.dk (kvs ++ [(.inl i, v)])]) := by
  unfold fSetD
  simp only [st_get0, List.getElem?_cons_zero, Fx.keyOf]
  rw [if_pos (szFits_of1 (by omega)), putD_new h]
  simp
end K21

set_option Elab.async false
set_option linter.all false
set_option maxRecDepth 100000
set_option maxHeartbeats 4000000
namespace K21
open PySem L2 Fx
variable {A : Nat → Addr} {d : Nat}
theorem enum_map {α : Type} {f : α → D} (l : List α) : enumD (l.map f) = (List.range l.length).zipWith (fun i a => D.tup [nD i, f a]) l := by
  unfold enumD
  rw [List.length_map, List.zipWith_map_right]
theorem tables_eq {ps : List (Pm d)} {st : Store} (h : Sys ps) : S_letter_tables A [sysD ps] st = .ok (.loc st.length) (st ++ [.dk (tabL ps 0)]) := by
  have hr := h.rank
  have key := forS_ind (g := gT (gsCons (gN 2) (gsCons (gN 3) gsNil))) (b := B_letter_tables_0 A)
    (P := fun ds τ st' => ∃ (m : Nat) (τ2 τ3 : Option D), τ = [some (sysD ps), some (.loc st.length), τ2, τ3] ∧ st' = st ++ [.dk (tabL (ps.take m) 0)] ∧ m ≤ ps.length ∧ ds = (enumD (ps.map tp)).drop m)
    (fun y ys τ st' ⟨m, τ2, τ3, e1, e2, hm, e3⟩ => by
      subst e1 e2
      have hlt : m < ps.length := by
        refine Nat.lt_of_not_le fun z => ?_
        rw [List.drop_eq_nil_of_le (by rw [enumD_len]; simp; omega)] at e3
        cases e3
      have eg : (enumD (ps.map tp))[m]? = some (.tup [nD m, tp ps[m]]) := by
        rw [enumD_get, List.getElem?_map, List.getElem?_eq_getElem hlt]; rfl
      have hlt2 : m < (enumD (ps.map tp)).length := by rw [enumD_len]; simpa using hlt
      rw [List.drop_eq_getElem_cons hlt2, List.cons.injEq] at e3
      obtain ⟨rfl, rfl⟩ := e3
      rw [List.getElem?_eq_getElem hlt2, Option.some.injEq] at eg
      rw [eg]
      have hlen : (ps.take m).length = m := by simp; omega
      have a1 := tabL_any (i := (m : Int) + 1) (ps.take m) 0 (by rw [hlen]; omega)
      have s1 := setD_at (st := st) (i := (m : Int) + 1) (v := tp ps[m]) a1 (by rw [tabL_len, hlen]; omega)
      have a2 : ((tabL (ps.take m) 0 ++ [(Sum.inl ((m : Int) + 1), tp ps[m])]).any fun kv => decide (kv.1 = Sum.inl (-(m : Int) - 1))) = false := by
        rw [List.any_append, tabL_any (i := -(m : Int) - 1) (ps.take m) 0 (by rw [hlen]; omega)]
        have n1 : ¬ ((m : Int) + 1 = -(m : Int) - 1) := by omega
        simp [n1]
      have s2 := setD_at (st := st) (i := -(m : Int) - 1) (v := tp ps[m].inv) a2 (by rw [List.length_append, tabL_len, hlen]; simp; omega)
      have et : tabL (ps.take (m + 1)) 0 = tabL (ps.take m) 0 ++ [(Sum.inl ((m : Int) + 1), tp ps[m])] ++ [(Sum.inl (-(m : Int) - 1), tp ps[m].inv)] := by
        rw [List.take_add_one, List.getElem?_eq_getElem hlt]
        simp only [Option.toList]
        rw [tabL_snoc, hlen]
        have e5 : -(((0 + m : Nat) : Int) + 1) = -(m : Int) - 1 := by omega
        have e6 : (((0 + m : Nat) : Int) + 1) = (m : Int) + 1 := by omega
        rw [e5, e6]
        simp
      refine ⟨_, rfl, _, st ++ [.dk (tabL (ps.take (m + 1)) 0)], .inl ?_, m + 1, some (nD m), some (tp ps[m]), rfl, rfl, hlt, rfl⟩
      rw [et]
      simp [b_letter_tables_0, s1, s2, inverse_of_eq (A := A) (p := ps[m]) (by have := h.few; omega)])
    (enumD (ps.map tp)) [some (sysD ps), some (.loc st.length), none, none] (st ++ [.dk []]) ⟨0, none, none, rfl, rfl, Nat.zero_le _, rfl⟩
  obtain ⟨τ', st', e, m, τ2, τ3, e1, e2, hm, e3⟩ := key
  subst e1 e2
  have hm2 : m = ps.length := by
    have := congrArg List.length e3
    rw [List.length_drop, enumD_len] at this
    simp at this; omega
  subst hm2
  rw [List.take_length] at e
  have qx : fIx (sysD ps) (.int 1) (st ++ [.dk []]) = .ok (rD ps) (st ++ [.dk []]) := by
    rw [sysD, x_ixT, show atI [D.int (d : Int), rD ps] 1 = some (rD ps) from atI_nat (j := 1) rfl]
  rw [S_letter_tables_eq]
  refine runF_rt ?_
  obtain ⟨XS, hX⟩ : ∃ XS, XS = ps.map tp := ⟨_, rfl⟩
  have eR : rD ps = .tup XS := by rw [hX]; rfl
  rw [← hX] at e
  rw [eR] at qx
  simp [m_letter_tables, N_letter_tables, qx, e]
/-! ### walking -/
def wact (ps : List (Pm d)) (is : List Int) : Pm d := is.foldl (fun c i => c * act ps i) Pm.one
theorem wact_from (ps : List (Pm d)) (is : List Int) (c : Pm d) : is.foldl (fun c i => c * act ps i) c = c * wact ps is := by
  unfold wact
  induction is generalizing c with
  | nil => rfl
  | cons i is ih => rw [List.foldl_cons, List.foldl_cons, ih, ih (Pm.one * act ps i), Pm.one_mul, Pm.assoc]
theorem wact_cons (ps : List (Pm d)) (i : Int) (is : List Int) : wact ps (i :: is) = act ps i * wact ps is := by
  rw [wact, List.foldl_cons, wact_from, Pm.one_mul]
theorem wact_app (ps : List (Pm d)) (a b : List Int) : wact ps (a ++ b) = wact ps a * wact ps b := by
  rw [wact, List.foldl_append, wact_from]; rfl
theorem led_eq {ps : List (Pm d)} {is : List Int} {st : Store} {n x : Nat} (hn : st[n]? = some (.dk (tabL ps 0))) (hi : ∀ i ∈ is, 1 ≤ i.natAbs ∧ i.natAbs ≤ ps.length) (hx : x < d) : S_led_along A [.loc n, nD x, wD is] st = .ok (nD ((wact ps is).f x)) st := by
  have key := forS_ind (g := gN 3) (b := B_led_along_0 A)
    (P := fun ds τ st' => ∃ (y : Nat) (js : List Int) (τ3 : Option D), τ = [some (.loc n), some (nD y), some (wD is), τ3] ∧ st' = st ∧ ds = js.map D.int ∧ y < d ∧ (∀ i ∈ js, 1 ≤ i.natAbs ∧ i.natAbs ≤ ps.length) ∧ (wact ps js).f y = (wact ps is).f x)
    (fun y ys τ st' ⟨v, js, τ3, e1, e2, e3, hv, hj, hf⟩ => by
      subst e1 e2
      cases js with
      | nil => simp at e3
      | cons j js =>
        simp only [List.map_cons, List.cons.injEq] at e3
        obtain ⟨rfl, rfl⟩ := e3
        obtain ⟨hj1, hj2⟩ := hj j List.mem_cons_self
        have ev := tabL_val (i := j) ps 0 (by omega) (by omega)
        rw [Nat.sub_zero] at ev
        have ea : valD (tabL ps 0) (.inl j) = some (tp (act ps j)) := ev
        have q1 : fDGet (.loc n) (.int j) st' = .ok (tp (act ps j)) st' := by
          unfold fDGet dGet
          simp only [hn, Fx.keyOf, ea]
        have q2 : fIx (tp (act ps j)) (nD v) st' = .ok (nD ((act ps j).f v)) st' := by
          rw [tp, lD, x_ixT, atI_tp _ hv]
        refine ⟨_, rfl, _, st', .inl ?_, (act ps j).f v, js, some (.int j), rfl, rfl, rfl, (act ps j).lt hv, fun i hi => hj i (List.mem_cons_of_mem _ hi), by rw [wact_cons] at hf; exact hf⟩
        simp only [nD] at q2
        simp [b_led_along_0, q1, q2])
    (is.map D.int) [some (.loc n), some (nD x), some (wD is), none] st ⟨x, is, none, rfl, rfl, rfl, hx, hi, rfl⟩
  obtain ⟨τ', st', e, v, js, τ3, e1, e2, e3, hv, hj, hf⟩ := key
  subst e1 e2
  have : js = [] := by cases js with
    | nil => rfl
    | cons a b => simp at e3
  subst this
  have hf' : v = (wact ps is).f x := hf
  rw [S_led_along_eq, ← hf']
  refine gc_ok [] (runF_rt ?_) (by simp [WfD])
  obtain ⟨WS, hWS⟩ : ∃ WS, WS = is.map D.int := ⟨_, rfl⟩
  have eW : wD is = .tup WS := by rw [hWS]; rfl
  rw [← hWS, eW] at e
  rw [eW]
  simp [m_led_along, N_led_along] at e ⊢
  simp [e]
end K21

set_option Elab.async false
set_option linter.all false
set_option maxRecDepth 100000
set_option maxHeartbeats 4000000
namespace K21
open PySem L2 Fx
variable {A : Nat → Addr} {d : Nat}
theorem fIx0 {ps : List (Pm d)} {st : Store} : fIx (sysD ps) (.int 0) st = .ok (.int (d : Int)) st := by
  rw [sysD, x_ixT, show atI [D.int (d : Int), rD ps] 0 = some (.int (d : Int)) from atI_nat (j := 0) rfl]
theorem fIx1 {ps : List (Pm d)} {st : Store} : fIx (sysD ps) (.int 1) st = .ok (rD ps) st := by
  rw [sysD, x_ixT, show atI [D.int (d : Int), rD ps] 1 = some (rD ps) from atI_nat (j := 1) rfl]
theorem fLen_rD {ps : List (Pm d)} {st : Store} : fLen [rD ps] st = .ok (.int (ps.length : Int)) st := by simp [rD]
def sheetB (x : D) (d : Nat) : Bool := match x with
  | .int i => decide (0 ≤ i ∧ i < (d : Int))
  | _ => false
theorem is_sheet_eq {ps : List (Pm d)} {x : D} {st : Store} (h : pl x = true) : S_is_sheet A [x, sysD ps] st = .ok (.bl (sheetB x d)) st := by
  have hi := is_integer_eq (A := A) (x := x) (st := st) h
  rw [S_is_sheet_eq]
  refine gc_ok [] (runF_rt ?_) (by simp [WfD])
  cases x with
  | int i =>
    by_cases c : 0 ≤ i
    · have e : decide (i < (d : Int)) = decide (0 ≤ i ∧ i < (d : Int)) := by simp [c]
      simp [m_is_sheet, N_is_sheet, hi, isI, c, fIx0]
      rw [sheetB, e]
    · simp [m_is_sheet, N_is_sheet, hi, isI, c, sheetB]
  | _ =>
    first
    | (simp [pl] at h; done)
    | (simp [m_is_sheet, N_is_sheet, hi, isI, sheetB])
theorem check_sheet_eq {ps : List (Pm d)} {x : D} {st : Store} (h : pl x = true) : S_check_sheet A [x, sysD ps] st = if sheetB x d = true then .ok .non st else .er ⟨A 2, none⟩ st := by
  have q := is_sheet_eq (A := A) (ps := ps) (st := st) h
  rw [S_check_sheet_eq]
  cases e : sheetB x d with
  | true => rw [e] at q; exact gc_ok [] (runF_nx (τ' := [some x, some (sysD ps)]) (by simp [m_check_sheet, N_check_sheet, q])) (by simp [WfD])
  | false => rw [e] at q; exact gc_er [] (runF_er (τ' := [some x, some (sysD ps)]) (by simp [m_check_sheet, N_check_sheet, q]))
theorem walk_word_ok {ps : List (Pm d)} {is : List Int} {x : Nat} {st : Store} (h : Sys ps) (hw : Wd ps.length is) (hx : x < d) : S_walk_word A [sysD ps, nD x, wD is] st = .ok (nD ((wact ps is).f x)) st := by
  have c1 := check_system_ok (A := A) (st := st) h
  have c2 := check_sheet_eq (A := A) (ps := ps) (x := nD x) (st := st) rfl
  rw [if_pos (show sheetB (nD x) d = true from decide_eq_true (by omega))] at c2
  have c3 := check_word_ok (A := A) (st := st) hw h.rank
  have c4 := tables_eq (A := A) (st := st) h
  have c5 := led_eq (A := A) (ps := ps) (is := is) (st := st ++ [.dk (tabL ps 0)]) (n := st.length) (x := x) (by simp) hw.let_ hx
  rw [S_walk_word_eq]
  refine gc_ok [.dk (tabL ps 0)] (runF_rt ?_) (by simp [WfD])
  simp only [nD] at c2 c5 ⊢
  simp [m_walk_word, N_walk_word, c1, c2, fIx1, fLen_rD, c3, c4, c5]
theorem walk_word_er1 {S x y : D} {st : Store} (h : S_check_system A [S] st = .er ⟨A 2, none⟩ st) : S_walk_word A [S, x, y] st = .er ⟨A 2, none⟩ st := by
  rw [S_walk_word_eq]
  exact gc_er [] (runF_er (τ' := [some S, some x, some y]) (by simp [m_walk_word, N_walk_word, h]))
theorem walk_word_er2 {ps : List (Pm d)} {x y : D} {st : Store} (h : Sys ps) (hp : pl x = true) (hx : sheetB x d = false) : S_walk_word A [sysD ps, x, y] st = .er ⟨A 2, none⟩ st := by
  have c1 := check_system_ok (A := A) (st := st) h
  have c2 := check_sheet_eq (A := A) (ps := ps) (x := x) (st := st) hp
  rw [hx, if_neg (by simp)] at c2
  rw [S_walk_word_eq]
  exact gc_er [] (runF_er (τ' := [some (sysD ps), some x, some y]) (by simp [m_walk_word, N_walk_word, c1, c2]))
theorem walk_word_er3 {ps : List (Pm d)} {y : D} {x : Nat} {st : Store} (h : Sys ps) (hx : x < d) (hy : okW y) (hb : wordB y ps.length = false) : S_walk_word A [sysD ps, nD x, y] st = .er ⟨A 2, none⟩ st := by
  have c1 := check_system_ok (A := A) (st := st) h
  have c2 := check_sheet_eq (A := A) (ps := ps) (x := nD x) (st := st) rfl
  rw [if_pos (show sheetB (nD x) d = true from decide_eq_true (by omega))] at c2
  have c3 := check_word_bad (A := A) (st := st) hy h.rank hb
  rw [S_walk_word_eq]
  refine gc_er [] (runF_er (τ' := [some (sysD ps), some (nD x), some y]) ?_)
  simp only [nD] at c2 ⊢
  simp [m_walk_word, N_walk_word, c1, c2, fIx1, fLen_rD, c3]
theorem led_comp {ps : List (Pm d)} {is : List Int} {st : Store} {n : Nat} {m : SE} {g : SG} {vs : List Nat} {τ : En} (hd : d ≤ 1000) (h : ∀ x, x < d → ∃ τ1, g (nD x) (wipeE τ vs) = some τ1 ∧ m τ1 st = .ok (nD ((wact ps is).f x)) st) : compS g mYes m vs ((List.range d).map nD) τ st [] = .ok ((wact ps is).list.map nD) st := by
  rw [compS_mapL (h := nD) (f := fun x => nD ((wact ps is).f x))]
  · simp [Pm.list, Function.comp_def]
  · intro x hx
    rw [List.mem_range] at hx
    obtain ⟨τ1, e1, e2⟩ := h x hx
    exact ⟨τ1, e1, rfl, e2⟩
  · simpa using small hd
theorem word_perm_ok {ps : List (Pm d)} {is : List Int} {st : Store} (h : Sys ps) (hw : Wd ps.length is) : S_word_permutation A [sysD ps, wD is] st = .ok (tp (wact ps is)) st := by
  have hd := h.few
  have c1 := check_system_ok (A := A) (st := st) h
  have c3 := check_word_ok (A := A) (st := st) hw h.rank
  have c4 := tables_eq (A := A) (st := st) h
  have k1 := led_comp (ps := ps) (is := is) (st := st ++ [.dk (tabL ps 0)]) (n := 0) (m := e_word_permutation_0 (S_led_along A)) (g := gN 3) (vs := [3]) (τ := [some (sysD ps), some (wD is), some (.loc st.length), none]) (by omega) (fun x hx => ⟨_, rfl, by
    have c5 := led_eq (A := A) (ps := ps) (is := is) (st := st ++ [.dk (tabL ps 0)]) (n := st.length) (x := x) (by simp) hw.let_ hx
    simp only [nD] at c5
    simp [e_word_permutation_0, c5]⟩)
  have z : w62 (d : Int) = true := w62_of (by omega) (by omega)
  rw [S_word_permutation_eq]
  refine gc_ok [.dk (tabL ps 0)] (runF_rt ?_) (wf_lf _ (lf_tp _))
  simp [m_word_permutation, N_word_permutation, c1, fIx1, fIx0, fLen_rD, c3, c4, z, range_nD, k1]
  rfl
end K21

set_option Elab.async false
set_option linter.all false
set_option maxRecDepth 100000
set_option maxHeartbeats 4000000
namespace K21
open PySem L2 Fx
variable {A : Nat → Addr} {d : Nat}
theorem word_perm_er1 {S y : D} {st : Store} (h : S_check_system A [S] st = .er ⟨A 2, none⟩ st) : S_word_permutation A [S, y] st = .er ⟨A 2, none⟩ st := by
  rw [S_word_permutation_eq]
  exact gc_er [] (runF_er (τ' := [some S, some y, none, none]) (by simp [m_word_permutation, N_word_permutation, h]))
theorem word_perm_er2 {ps : List (Pm d)} {y : D} {st : Store} (h : Sys ps) (hy : okW y) (hb : wordB y ps.length = false) : S_word_permutation A [sysD ps, y] st = .er ⟨A 2, none⟩ st := by
  have c1 := check_system_ok (A := A) (st := st) h
  have c3 := check_word_bad (A := A) (st := st) hy h.rank hb
  rw [S_word_permutation_eq]
  exact gc_er [] (runF_er (τ' := [some (sysD ps), some y, none, none]) (by simp [m_word_permutation, N_word_permutation, c1, fIx1, fLen_rD, c3]))
theorem told_system_er1 {S y : D} {st : Store} (h : S_check_system A [S] st = .er ⟨A 2, none⟩ st) : S_told_system A [S, y] st = .er ⟨A 2, none⟩ st := by
  rw [S_told_system_eq]
  exact gc_er [] (runF_er (τ' := [some S, some y, none, none, none]) (by simp [m_told_system, N_told_system, h]))
def wordsB (y : D) (k : Nat) : Bool := match y with
  | .tup ws => decide (ws.length ≤ 12) && ws.all fun w => wordB w k
  | _ => false
theorem words_comp {ps : List (Pm d)} {ws : List D} {st : Store} {τ2 τ3 τ4 : Option D} (h : Sys ps) (hw : ∀ w ∈ ws, okW w) (hl : ws.length ≤ 100) : compS (gN 3) mYes (e_told_system_2 (S_is_word A)) [3] ws [some (sysD ps), some (.tup ws), τ2, τ3, τ4] st [] = .ok ((ws.map fun w => wordB w ps.length).map D.bl) st := by
  rw [compS_map (f := fun w => .bl (wordB w ps.length))]
  · simp
  · intro w hw1
    exact ⟨_, rfl, rfl, by simp [e_told_system_2, fIx1, fLen_rD, is_word_eq (A := A) (hw w hw1) h.rank]⟩
  · exact small (by simp; omega)
theorem told_system_er2 {ps : List (Pm d)} {y : D} {st : Store} (h : Sys ps) (hp : pl y = true) (hy : ∀ ws, y = .tup ws → ∀ w ∈ ws, okW w) (hb : wordsB y ps.length = false) : S_told_system A [sysD ps, y] st = .er ⟨A 2, none⟩ st := by
  have c1 := check_system_ok (A := A) (st := st) h
  rw [S_told_system_eq]
  refine gc_er [] (runF_er (τ' := [some (sysD ps), some y, none, none, none]) ?_)
  cases y with
  | tup ws =>
    by_cases c : ws.length ≤ 12
    · have c' : ¬ (12 : Int) < (ws.length : Int) := by omega
      have k1 := words_comp (A := A) (ps := ps) (ws := ws) (st := st) (τ2 := none) (τ3 := none) (τ4 := none) h (hy ws rfl) (by omega)
      have hb' : (ws.all fun w => wordB w ps.length) = false := by simpa [wordsB, c] using hb
      have a2 : fAll [.lst ((ws.map fun w => wordB w ps.length).map D.bl)] st = .ok (.bl false) st := by
        unfold fAll
        rw [x_onBls, List.all_map]
        exact congrArg (fun b => Rs.ok (D.bl b) st) hb'
      obtain ⟨L2, hL2⟩ : ∃ L2, L2 = (ws.map fun w => wordB w ps.length).map D.bl := ⟨_, rfl⟩
      rw [← hL2] at k1 a2
      simp [m_told_system, N_told_system, c1, c', k1, a2]
    · have c' : (12 : Int) < (ws.length : Int) := by omega
      simp [m_told_system, N_told_system, c1, c']
  | _ =>
    first
    | (simp [pl] at hp; done)
    | (simp [m_told_system, N_told_system, c1])
theorem told_system_ok {ps : List (Pm d)} {ws : List (List Int)} {st : Store} (h : Sys ps) (hw : ∀ w ∈ ws, Wd ps.length w) (hl : ws.length ≤ 12) : S_told_system A [sysD ps, .tup (ws.map wD)] st = .ok (sysD (ws.map (wact ps))) st := by
  have hd := h.few
  have c1 := check_system_ok (A := A) (st := st) h
  have c4 := tables_eq (A := A) (st := st) h
  have z : w62 (d : Int) = true := w62_of (by omega) (by omega)
  have k1 := words_comp (A := A) (ps := ps) (ws := ws.map wD) (st := st) (τ2 := none) (τ3 := none) (τ4 := none) h (fun w hw1 => by
    obtain ⟨is, _, rfl⟩ := List.mem_map.mp hw1; exact okW_wD) (by simp; omega)
  have hb : ((ws.map wD).map fun w => wordB w ps.length).all id = true := by
    rw [List.all_map, List.all_map, List.all_eq_true]
    intro w hw1
    exact wordB_wD (hw w hw1)
  have a2 : fAll [.lst (((ws.map wD).map fun w => wordB w ps.length).map D.bl)] st = .ok (.bl true) st := by
    unfold fAll
    rw [x_onBls, hb]
  have k2 : compS (gN 3) mYes (e_told_system_1 (S_led_along A)) [3] (ws.map wD) [some (sysD ps), some (.tup (ws.map wD)), some (.loc st.length), none, none] (st ++ [.dk (tabL ps 0)]) [] = .ok ((ws.map (wact ps)).map tp) (st ++ [.dk (tabL ps 0)]) := by
    rw [compS_mapL (f := fun w => tp (wact ps w))]
    · simp
    · intro w hw1
      refine ⟨_, rfl, rfl, ?_⟩
      have k3 := led_comp (ps := ps) (is := w) (st := st ++ [.dk (tabL ps 0)]) (n := 0) (m := e_told_system_0 (S_led_along A)) (g := gN 4) (vs := [4]) (τ := [some (sysD ps), some (.tup (ws.map wD)), some (.loc st.length), some (wD w), none]) (by omega) (fun x hx => ⟨_, rfl, by
        have c5 := led_eq (A := A) (ps := ps) (is := w) (st := st ++ [.dk (tabL ps 0)]) (n := st.length) (x := x) (by simp) (hw w hw1).let_ hx
        simp only [nD] at c5
        simp [e_told_system_0, c5]⟩)
      simp [e_told_system_1, fIx0, z, range_nD, k3]
      rfl
    · exact small (by simp; omega)
  obtain ⟨WS, hWS⟩ : ∃ WS, WS = ws.map wD := ⟨_, rfl⟩
  have hlen : WS.length = ws.length := by rw [hWS]; simp
  have c' : ¬ (12 : Int) < (ws.length : Int) := by omega
  rw [← hWS] at k1 k2 a2 ⊢
  obtain ⟨L2, hL2⟩ : ∃ L2, L2 = (WS.map fun w => wordB w ps.length).map D.bl := ⟨_, rfl⟩
  rw [← hL2] at k1 a2
  obtain ⟨L3, hL3⟩ : ∃ L3, L3 = (ws.map (wact ps)).map tp := ⟨_, rfl⟩
  rw [← hL3] at k2
  have er : sysD (ws.map (wact ps)) = .tup [.int (d : Int), .tup L3] := by rw [hL3]; rfl
  rw [S_told_system_eq]
  refine gc_ok [.dk (tabL ps 0)] (runF_rt ?_) (wf_lf _ (by simp [sysD]))
  rw [er]
  simp [m_told_system, N_told_system, c1, hlen, c', k1, a2, c4, fIx0, k2]
end K21

set_option Elab.async false
set_option linter.all false
set_option maxRecDepth 100000
set_option maxHeartbeats 4000000
namespace K21
open PySem L2 Fx
variable {A : Nat → Addr} {d : Nat}
theorem number_eq {x : D} {st : Store} (h : pl x = true) : S_law_is_number A [x] st = .ok (.bl (isI x)) st := by
  rw [S_law_is_number_eq]
  refine gc_ok [] (runF_rt ?_) (by simp [WfD])
  cases x <;> simp_all [m_law_is_number, pl, isI, N_law_is_number]
theorem law_letter_el {x : D} {k : Nat} {st : Store} {τ0 : Option D} (h : pl x = true) : e_law_is_word_0 (S_law_is_number A) [τ0, some (.int (k : Int)), some x] st = .ok (.bl (letB x k)) st := by
  cases x with
  | int i =>
    have ea : (if i < 0 then -i else i) = (i.natAbs : Int) := by split <;> omega
    by_cases c : 1 ≤ i.natAbs
    · have c' : (1 : Int) ≤ (i.natAbs : Int) := by omega
      have e : decide ((i.natAbs : Int) ≤ (k : Int)) = decide (1 ≤ i.natAbs ∧ i.natAbs ≤ k) := by
        by_cases z : i.natAbs ≤ k
        · rw [decide_eq_true (show (i.natAbs : Int) ≤ (k : Int) by omega), decide_eq_true ⟨c, z⟩]
        · rw [decide_eq_false (show ¬ (i.natAbs : Int) ≤ (k : Int) by omega), decide_eq_false (by omega)]
      obtain ⟨m, hm⟩ : ∃ m : Int, m = (i.natAbs : Int) := ⟨_, rfl⟩
      rw [← hm] at ea c' e
      simp [e_law_is_word_0, number_eq h, isI, ea, c']
      rw [letB, ← e]
    · have c' : ¬ (1 : Int) ≤ (i.natAbs : Int) := by omega
      have e : letB (.int i) k = false := by simp [letB, c]
      obtain ⟨m, hm⟩ : ∃ m : Int, m = (i.natAbs : Int) := ⟨_, rfl⟩
      rw [← hm] at ea c'
      simp [e_law_is_word_0, number_eq h, isI, ea, c', e]
  | _ =>
    first
    | (simp [pl] at h; done)
    | (simp [e_law_is_word_0, number_eq h, isI, letB])
theorem law_is_word_eq {x : D} {k : Nat} {st : Store} (h : okW x) : S_law_is_word A [x, .int (k : Int)] st = .ok (.bl (wordB x k)) st := by
  rw [S_law_is_word_eq]
  refine gc_ok [] (runF_rt ?_) (by simp [WfD])
  obtain ⟨hp, hx⟩ := h
  cases x with
  | tup xs =>
    by_cases c : xs.length ≤ 2000
    · have c' : ¬ (2000 : Int) < (xs.length : Int) := by omega
      have e1 : compS (gN 2) mYes (e_law_is_word_0 (S_law_is_number A)) [2] xs [some (.tup xs), some (.int (k : Int)), none] st [] = .ok ((xs.map fun x => letB x k).map D.bl) st := by
        rw [compS_map (f := fun x => .bl (letB x k))]
        · simp
        · intro x hy
          exact ⟨_, rfl, rfl, law_letter_el (hx xs rfl x hy)⟩
        · rw [PySem.sizeLine_eq]; simp; omega
      have a2 : fAll [.lst ((xs.map fun x => letB x k).map D.bl)] st = .ok (.bl (xs.all fun x => letB x k)) st := by
        unfold fAll
        rw [x_onBls, List.all_map]; rfl
      have ew : wordB (.tup xs) k = xs.all fun x => letB x k := by rw [wordB, decide_eq_true c, Bool.true_and]
      rw [ew]
      obtain ⟨L2, hL2⟩ : ∃ L2, L2 = (xs.map fun x => letB x k).map D.bl := ⟨_, rfl⟩
      rw [← hL2] at e1 a2
      simp [m_law_is_word, N_law_is_word, c', e1, a2]
    · have c' : (2000 : Int) < (xs.length : Int) := by omega
      have ew : wordB (.tup xs) k = false := by rw [wordB, decide_eq_false c]; rfl
      simp [m_law_is_word, N_law_is_word, c', ew]
  | _ =>
    first
    | (simp [pl] at hp; done)
    | (simp [m_law_is_word, N_law_is_word, wordB])
theorem says_eq {a : Bool} {st : Store} : S_law_says A [.bl a, .bl a] st = .ok (.bl true) st := by
  rw [S_law_says_eq]
  refine gc_ok [] (runF_rt ?_) (by simp [WfD])
  simp [m_law_says, N_law_says, fEq_self (k := 0) (Fl.bl (i := a))]
theorem step_eq {ps : List (Pm d)} {x : Nat} {i : Int} {st : Store} (hd : d ≤ 1000) (hi : 1 ≤ i.natAbs ∧ i.natAbs ≤ ps.length) (hx : x < d) : S_law_step A [sysD ps, nD x, .int i] st = .ok (nD ((act ps i).f x)) st := by
  have hlt : i.natAbs - 1 < ps.length := by omega
  have ep : ps.getD (i.natAbs - 1) Pm.one = ps[i.natAbs - 1] := by rw [List.getD_eq_getElem?_getD, List.getElem?_eq_getElem hlt]; rfl
  have q1 : fIx (rD ps) (.int (((i.natAbs - 1 : Nat) : Nat) : Int)) st = .ok (tp ps[i.natAbs - 1]) st := by
    rw [rD, x_ixT, atI_map (List.getElem?_eq_getElem hlt)]
  obtain ⟨p, hp⟩ : ∃ p, p = ps[i.natAbs - 1] := ⟨_, rfl⟩
  rw [← hp] at ep q1
  have q2 : fIx (tp p) (nD x) st = .ok (nD (p.f x)) st := by rw [tp, lD, x_ixT, atI_tp _ hx]
  have q3 : fIx (tp p.inv) (nD x) st = .ok (nD (p.inv.f x)) st := by rw [tp, lD, x_ixT, atI_tp _ hx]
  have q4 := law_inverse_eq (A := A) (p := p) (st := st) hd
  obtain ⟨m, hm⟩ : ∃ m : Int, m = ((i.natAbs - 1 : Nat) : Int) := ⟨_, rfl⟩
  rw [← hm] at q1
  have ea : (if i < 0 then -i else i) - 1 = m := by rw [hm]; split <;> omega
  rw [S_law_step_eq]
  refine gc_ok [] (runF_rt ?_) (by simp [WfD])
  simp only [nD] at q2 q3 ⊢
  by_cases c : 0 < i
  · rw [show act ps i = p by rw [act, if_pos c, ep]]
    simp [m_law_step, N_law_step, fIx1, ea, q1, c, q2]
  · rw [show act ps i = p.inv by rw [act, if_neg c, ep]]
    simp [m_law_step, N_law_step, fIx1, ea, q1, c, q4]
    simp at q3
    simp [q3]
theorem law_walk_eq {ps : List (Pm d)} {is : List Int} {st : Store} {x : Nat} (hd : d ≤ 1000) (hi : ∀ i ∈ is, 1 ≤ i.natAbs ∧ i.natAbs ≤ ps.length) (hx : x < d) : S_law_walk A [sysD ps, nD x, wD is] st = .ok (nD ((wact ps is).f x)) st := by
  have key := forS_ind (g := gN 3) (b := B_law_walk_0 A)
    (P := fun ds τ st' => ∃ (y : Nat) (js : List Int) (τ3 : Option D), τ = [some (sysD ps), some (nD y), some (wD is), τ3] ∧ st' = st ∧ ds = js.map D.int ∧ y < d ∧ (∀ i ∈ js, 1 ≤ i.natAbs ∧ i.natAbs ≤ ps.length) ∧ (wact ps js).f y = (wact ps is).f x)
    (fun y ys τ st' ⟨v, js, τ3, e1, e2, e3, hv, hj, hf⟩ => by
      subst e1 e2
      cases js with
      | nil => simp at e3
      | cons j js =>
        simp only [List.map_cons, List.cons.injEq] at e3
        obtain ⟨rfl, rfl⟩ := e3
        have q := step_eq (A := A) (st := st') hd (hj j List.mem_cons_self) hv
        refine ⟨_, rfl, _, st', .inl ?_, (act ps j).f v, js, some (.int j), rfl, rfl, rfl, (act ps j).lt hv, fun i hi => hj i (List.mem_cons_of_mem _ hi), by rw [wact_cons] at hf; exact hf⟩
        simp only [nD] at q
        simp [b_law_walk_0, q])
    (is.map D.int) [some (sysD ps), some (nD x), some (wD is), none] st ⟨x, is, none, rfl, rfl, rfl, hx, hi, rfl⟩
  obtain ⟨τ', st', e, v, js, τ3, e1, e2, e3, hv, hj, hf⟩ := key
  subst e1 e2
  have : js = [] := by cases js with
    | nil => rfl
    | cons a b => simp at e3
  subst this
  have hf' : v = (wact ps is).f x := hf
  rw [S_law_walk_eq, ← hf']
  refine gc_ok [] (runF_rt ?_) (by simp [WfD])
  obtain ⟨WS, hWS⟩ : ∃ WS, WS = is.map D.int := ⟨_, rfl⟩
  have eW : wD is = .tup WS := by rw [hWS]; rfl
  rw [← hWS, eW] at e
  rw [eW]
  simp [m_law_walk, N_law_walk] at e ⊢
  simp [e]
end K21

set_option Elab.async false
set_option linter.all false
set_option maxRecDepth 100000
set_option maxHeartbeats 4000000
namespace K21
open PySem L2 Fx
variable {A : Nat → Addr} {d : Nat}
theorem letters_eq {k : Nat} {st : Store} (hk : k ≤ 12) : ∃ ls : List Int, S_law_letters A [.int (k : Int)] st = .ok (.lst (ls.map D.int)) st ∧ ls.length = 2 * k ∧ ∀ i ∈ ls, 1 ≤ i.natAbs ∧ i.natAbs ≤ k := by
  have key := forS_ind (g := gN 2) (b := B_law_letters_0 A)
    (P := fun ds τ st' => ∃ (ls : List Int) (g : Store) (n : Nat) (τ2 : Option D), τ = [some (.int (k : Int)), some (.loc n), τ2] ∧ st' = st ++ g ∧ st.length ≤ n ∧ (st ++ g)[n]? = some (.lst (ls.map D.int)) ∧ ls.length + 2 * ds.length = 2 * k ∧ (∀ i ∈ ls, 1 ≤ i.natAbs ∧ i.natAbs ≤ k) ∧ ∀ x ∈ ds, x ∈ rangeD 1 ((k : Int) + 1))
    (fun y ys τ st' ⟨ls, g, n, τ2, e1, e2, hn, hg, hl, hi, hd⟩ => by
      subst e1 e2
      obtain ⟨i, hi1, hi2, rfl⟩ := rangeD_mem.mp (hd y List.mem_cons_self)
      simp only [List.length_cons] at hl
      have qs := x_strict hg
      have z : szFits (ls.length + 2) = true := szFits_of (by omega)
      refine ⟨_, rfl, _, st ++ (g ++ [.lst ((ls ++ [i, -i]).map D.int)]), .inl ?_, ls ++ [i, -i], g ++ [.lst ((ls ++ [i, -i]).map D.int)], (st ++ g).length, some (.int i), rfl, rfl, by simp, ?_, by simp; omega, ?_, fun x hx => hd x (List.mem_cons_of_mem _ hx)⟩
      · simp [b_law_letters_0, qs, z]
      · rw [← List.append_assoc]; simp only [st_get0, List.getElem?_cons_zero]
      · intro j hj
        rcases List.mem_append.mp hj with hj | hj
        · exact hi j hj
        · simp only [List.mem_cons, List.not_mem_nil, or_false] at hj
          rcases hj with rfl | rfl <;> omega)
    (rangeD 1 ((k : Int) + 1)) [some (.int (k : Int)), some (.loc st.length), none] (st ++ [.lst []]) ⟨[], [.lst []], st.length, none, rfl, rfl, Nat.le_refl _, by simp, by simp, by simp, fun x hx => hx⟩
  obtain ⟨τ', st', e, ls, g, n, τ2, e1, e2, hn, hg, hl, hi, _⟩ := key
  subst e1 e2
  refine ⟨ls, ?_, by simpa using hl, hi⟩
  rw [S_law_letters_eq]
  have z1 : w62 1 = true := w62_of (by omega) (by omega)
  have z2 : w62 ((k : Int) + 1) = true := w62_of (by omega) (by omega)
  refine gc_lst g (runF_rt ?_) hn hg (wf_lfs _ (by simp [lfs_all, List.all_map]))
  simp [m_law_letters, N_law_letters, z1, z2, e]
end K21

set_option Elab.async false
set_option linter.all false
set_option maxRecDepth 100000
set_option maxHeartbeats 4000000
namespace K21
open PySem L2 Fx
variable {A : Nat → Addr} {d : Nat}
theorem law_word_eq {s t : Int} {k m : Nat} (hs : 0 ≤ s) (hk : k ≤ 12) (hm : m ≤ 100) : ∃ (is : List Int) (s' t' : Int), S_law_word A [.loc 0, .int (k : Int), .int (m : Int)] [stt s t] = .ok (wD is) [stt s' t'] ∧ 0 ≤ s' ∧ is.length ≤ m ∧ ∀ i ∈ is, 1 ≤ i.natAbs ∧ i.natAbs ≤ k := by
  by_cases c : k = 0
  · subst c
    refine ⟨[], s, t, ?_, hs, by simp, by simp⟩
    rw [S_law_word_eq]
    refine gc_ok [] (runF_rt ?_) (wf_lf _ lf_wD)
    simp [m_law_word, N_law_word, wD]
  · have c' : ¬ (k : Int) = 0 := by omega
    obtain ⟨ls, ql, hl, hls⟩ := letters_eq (A := A) (k := k) (st := [stt s t]) hk
    obtain ⟨v, s1, t1, q1, hv, hs1⟩ := take_nat (A := A) (s := s) (t := t) (n := m + 1) (r := []) hs (by omega) (by omega)
    have em : (((m + 1 : Nat) : Nat) : Int) = (m : Int) + 1 := by omega
    rw [em] at q1
    have z : w62 (v : Int) = true := w62_of (by omega) (by omega)
    obtain ⟨st', acc', e, s', t', is, e1, hs', e2, hn, hi⟩ := compS_ind (g := gN 4) (t := mYes) (m := E_law_word_0 A) (vs := [4]) (τ := [some (.loc 0), some (.int (k : Int)), some (.int (m : Int)), some (.lst (ls.map D.int)), none])
      (P := fun ds st acc => ∃ (s t : Int) (is : List Int), st = [stt s t] ∧ 0 ≤ s ∧ acc = is.map D.int ∧ is.length + ds.length = v ∧ ∀ i ∈ is, 1 ≤ i.natAbs ∧ i.natAbs ≤ k)
      (fun y ys st acc ⟨s, t, is, e1, hs, e2, hn, hi⟩ => by
        subst e1 e2
        simp only [List.length_cons] at hn
        obtain ⟨u, s2, t2, q2, hu, hs2⟩ := take_nat (A := A) (s := s) (t := t) (n := 2 * k) (r := []) hs (by omega) (by omega)
        have e2k : (((2 * k : Nat) : Nat) : Int) = 2 * (k : Int) := by omega
        rw [e2k] at q2
        have hul : u < ls.length := by omega
        have qi : atI (ls.map D.int) (u : Int) = some (.int ls[u]) := atI_map (List.getElem?_eq_getElem hul)
        have zm : mulFits 2 (k : Int) = true := mulFits_r (by omega) (by omega)
        refine ⟨_, rfl, .inl ⟨_, .int ls[u], [stt s2 t2], rfl, by simp [e_law_word_0, zm, q2, qi], small1000 (by simp; omega), s2, t2, is ++ [ls[u]], rfl, hs2, by simp, by simp; omega, fun i hi' => ?_⟩⟩
        rcases List.mem_append.mp hi' with h | h
        · exact hi i h
        · rw [List.mem_singleton] at h; subst h; exact hls _ (List.getElem_mem hul))
      (rangeD 0 (v : Int)) [stt s1 t1] [] ⟨s1, t1, [], rfl, hs1, rfl, by simp, by simp⟩
    subst e1 e2
    refine ⟨is, s', t', ?_, hs', by simp at hn; omega, hi⟩
    rw [S_law_word_eq]
    refine gc_ok' [] (runF_rt ?_) rfl ?_ (wf_lf _ lf_wD)
    · simp [m_law_word, N_law_word, c, ql, q1, z, e, wD]
    · intro i o h
      cases i with
      | zero => simp at h; subst h; simp [WfO, WfDs, WfD]
      | succ i => simp at h
end K21

set_option Elab.async false
set_option linter.all false
set_option maxRecDepth 100000
set_option maxHeartbeats 4000000
namespace K21
open PySem L2 Fx
variable {A : Nat → Addr} {d : Nat}
/-- the turn x -> x + 1 mod d -/
def shift (d : Nat) (hd : 0 < d) : Pm d where
  f := fun x => if x < d then (x + 1) % d else x
  b := fun x => if x < d then (x + (d - 1)) % d else x
  fb := fun x => by
    by_cases h : x < d
    · have h2 : (x + (d - 1)) % d < d := Nat.mod_lt _ hd
      simp only [h, h2, if_true]
      rw [Nat.mod_add_mod, show x + (d - 1) + 1 = x + d by omega, Nat.add_mod_right, Nat.mod_eq_of_lt h]
    · simp only [h, if_false]
  bf := fun x => by
    by_cases h : x < d
    · have h2 : (x + 1) % d < d := Nat.mod_lt _ hd
      simp only [h, h2, if_true]
      rw [Nat.mod_add_mod, show x + 1 + (d - 1) = x + d by omega, Nat.add_mod_right, Nat.mod_eq_of_lt h]
    · simp only [h, if_false]
  out := fun x h => by
    have : ¬ x < d := by omega
    simp only [this, if_false]
theorem comp_f {p : Pm d} {m : SE} {g : SG} {vs : List Nat} {τ : En} {st : Store} (hd : d ≤ 1000) (h : ∀ x, x < d → ∃ τ1, g (nD x) (wipeE τ vs) = some τ1 ∧ m τ1 st = .ok (nD (p.f x)) st) : compS g mYes m vs ((List.range d).map nD) τ st [] = .ok (p.list.map nD) st := by
  rw [compS_mapL (h := nD) (f := fun x => nD (p.f x))]
  · simp [Pm.list, Function.comp_def]
  · intro x hx
    rw [List.mem_range] at hx
    obtain ⟨τ1, e1, e2⟩ := h x hx
    exact ⟨τ1, e1, rfl, e2⟩
  · simpa using small hd
end K21

set_option Elab.async false
set_option linter.all false
set_option maxRecDepth 100000
set_option maxHeartbeats 4000000
namespace K21
open PySem L2 Fx
variable {A : Nat → Addr} {d : Nat}
theorem permutation_r {s t : Int} {r : Store} (hs : 0 ≤ s) (hd : d ≤ 1000) (hw : ∀ (i : Nat) (o : O), r[i]? = some o → WfO (r.length + 1) o) : ∃ (p : Pm d) (s' t' : Int), S_law_permutation A [.loc 0, .int (d : Int)] (stt s t :: r) = .ok (tp p) (stt s' t' :: r) ∧ 0 ≤ s' := by
  have key := sWhile_ind (t := C_law_permutation_0 A) (b := B_law_permutation_0 A)
    (P := fun n τ st => ∃ (s t : Int) (left found : List Nat), τ = [some (.loc 0), some (.int (d : Int)), some (.loc (r.length + 1)), some (.loc (r.length + 1 + 1))] ∧ st = stt s t :: (r ++ [.lst (left.map nD), .lst (found.map nD)]) ∧ 0 ≤ s ∧ left.length = n ∧ (found ++ left).Perm (List.range d))
    (R := fun τ st => ∃ (s t : Int) (found : List Nat), τ = [some (.loc 0), some (.int (d : Int)), some (.loc (r.length + 1)), some (.loc (r.length + 1 + 1))] ∧ st = stt s t :: (r ++ [.lst [], .lst (found.map nD)]) ∧ 0 ≤ s ∧ found.Perm (List.range d))
    (fun n τ st ⟨s, t, left, found, e1, e2, hs, hl, hp⟩ => by
      subst e1 e2
      have hl1 : 0 < left.length := by omega
      have hb : found.length + left.length = d := by have := hp.length_eq; simpa using this
      obtain ⟨v, s', t', e, hv, hs'⟩ := take_nat (A := A) (s := s) (t := t) (n := left.length) (r := r ++ [.lst (left.map nD), .lst (found.map nD)]) hs hl1 (by omega)
      have hx : left[v]? = some left[v] := List.getElem?_eq_getElem hv
      have q1 := x_popAt (st := stt s' t' :: (r ++ [.lst (left.map nD), .lst (found.map nD)])) (n := r.length + 1) (xs := left.map nD) (k := v) (d := nD left[v]) (by simp) (by rw [List.getElem?_map, hx]; rfl) (by omega)
      have q2 := x_app (st := stt s' t' :: (r ++ [.lst ((left.map nD).eraseIdx v), .lst (found.map nD)])) (n := r.length + 1 + 1) (xs := found.map nD) (d := nD left[v]) (by simp) (small1000 (by simp; omega))
      have ql := x_lenLoc (st := stt s t :: (r ++ [.lst (left.map nD), .lst (found.map nD)])) (i := r.length + 1) (xs := left.map nD) (by simp)
      refine ⟨stt s t :: (r ++ [.lst (left.map nD), .lst (found.map nD)]), _, stt s' t' :: (r ++ [.lst ((left.eraseIdx v).map nD), .lst ((found ++ [left[v]]).map nD)]), ?_, .inl ?_, s', t', left.eraseIdx v, found ++ [left[v]], rfl, rfl, hs', ?_, ?_⟩
      · simp [c_law_permutation_0, ql]; omega
      · simp at q1 q2
        simp [b_law_permutation_0, Fx.listOf, ql, e, q1, q2]
        rw [erase_map]
      · rw [List.length_eraseIdx_of_lt hv]; omega
      · rw [List.append_assoc]; exact ((erase_perm hx).append_left found).trans hp)
    (fun τ st ⟨s, t, left, found, e1, e2, hs, hl, hp⟩ => by
      subst e1 e2
      have : left = [] := List.length_eq_zero_iff.mp hl
      subst this
      have ql := x_lenLoc (st := stt s t :: (r ++ [.lst [], .lst (found.map nD)])) (i := r.length + 1) (xs := []) (by simp)
      refine ⟨stt s t :: (r ++ [.lst [], .lst (found.map nD)]), ?_, s, t, found, rfl, rfl, hs, by simpa using hp⟩
      simp [c_law_permutation_0, ql])
    d [some (.loc 0), some (.int (d : Int)), some (.loc (r.length + 1)), some (.loc (r.length + 1 + 1))] (stt s t :: (r ++ [.lst ((List.range d).map nD), .lst []])) ⟨s, t, List.range d, [], rfl, rfl, hs, by simp, by simp⟩
  obtain ⟨τ', st', e, s', t', found, e1, e2, hs', hp⟩ := key
  subst e1 e2
  refine ⟨Pm.ofList found hp, s', t', ?_, hs'⟩
  rw [S_law_permutation_eq]
  refine gc_ok' [.lst [], .lst (found.map nD)] (runF_rt ?_) (by simp) ?_ (wf_lf _ (lf_tp _))
  · have z : rgFits 0 (d : Int) = true := rgFits_of (by omega) (by omega) (by omega) (by omega)
    have qt := x_tupleLoc (st := stt s' t' :: (r ++ [.lst [], .lst (found.map nD)])) (i := r.length + 1 + 1) (xs := found.map nD) (by simp)
    simp [m_law_permutation, N_law_permutation, z, range_nD, e, qt]
    simp [tp, lD, Pm.ofList_list]
  · intro i o h
    cases i with
    | zero => simp at h; subst h; simp [WfO, WfDs, WfD]
    | succ i => simp at h; exact hw i o h
end K21

set_option Elab.async false
set_option linter.all false
set_option maxRecDepth 100000
set_option maxHeartbeats 4000000
namespace K21
open PySem L2 Fx
variable {A : Nat → Addr} {d : Nat}
theorem swap_comp {a b : Nat} {st : Store} {τ : En} (hd : d ≤ 1000) (ha : a < d) (hb : b < d) (h6 : ∀ x, (τ.set 8 (some (nD x)))[6]? = some (some (nD a))) (h7 : ∀ x, (τ.set 8 (some (nD x)))[7]? = some (some (nD b))) (h8 : 8 < τ.length) :
    compS (gN 8) mYes e_law_system_0 [8] ((List.range d).map nD) τ st [] = .ok ((Fx.Pm.swap a b ha hb).list.map nD) st := by
  refine comp_f hd fun x hx => ⟨_, rfl, ?_⟩
  have e : ((wipeE τ [8]).set 8 (some (nD x))) = τ.set 8 (some (nD x)) := by simp
  rw [e]
  have q8 : (τ.set 8 (some (nD x)))[8]? = some (some (nD x)) := by simp [h8]
  by_cases h1 : x = a
  · subst h1; simp [e_law_system_0, Fx.Pm.swap, h6, h7, q8]
  · have h1' : ¬ (x : Int) = (a : Int) := by omega
    by_cases h2 : x = b
    · subst h2; simp [e_law_system_0, Fx.Pm.swap, h6, h7, q8, h1]
    · have h2' : ¬ (x : Int) = (b : Int) := by omega
      simp [e_law_system_0, Fx.Pm.swap, h6, h7, q8, h1, h2]
      rw [if_neg h1', if_neg h2']
end K21

set_option Elab.async false
set_option linter.all false
set_option maxRecDepth 100000
set_option maxHeartbeats 4000000
namespace K21
open PySem L2 Fx
variable {A : Nat → Addr} {d : Nat}
theorem shift_comp {st : Store} {τ : En} (hd : d ≤ 1000) (hd0 : 0 < d) (h1 : ∀ x, (τ.set 8 (some (nD x)))[1]? = some (some (.int (d : Int)))) (h8 : 8 < τ.length) :
    compS (gN 8) mYes e_law_system_1 [8] ((List.range d).map nD) τ st [] = .ok ((shift d hd0).list.map nD) st := by
  refine comp_f hd fun x hx => ⟨_, rfl, ?_⟩
  have e : ((wipeE τ [8]).set 8 (some (nD x))) = τ.set 8 (some (nD x)) := by simp
  rw [e]
  have q8 : (τ.set 8 (some (nD x)))[8]? = some (some (nD x)) := by simp [h8]
  have hd' : (0 : Int) < (d : Int) := by omega
  have em : ((x : Int) + 1) % (d : Int) = (((x + 1) % d : Nat) : Int) := by simp
  have ef : (shift d hd0).f x = (x + 1) % d := by simp only [shift, hx, if_true]
  rw [ef]
  simp [e_law_system_1, h1, q8, hd0]
theorem system_step {s t : Int} {ps : List (Pm d)} {k : Int} {τ4 τ5 τ6 τ7 τ8 : Option D} (hs : 0 ≤ s) (hd : 1 ≤ d) (hd2 : d ≤ 24) (hl : ps.length ≤ 50) : ∃ (q : Pm d) (s' t' : Int) (τ5' τ6' τ7' : Option D),
    B_law_system_0 A [some (.loc 0), some (.int (d : Int)), some (.int k), some (.loc 1), τ4, τ5, τ6, τ7, τ8] [stt s t, .lst (ps.map tp)] = .nx [some (.loc 0), some (.int (d : Int)), some (.int k), some (.loc 1), τ4, τ5', τ6', τ7', τ8] [stt s' t', .lst ((ps ++ [q]).map tp)] ∧ 0 ≤ s' := by
  obtain ⟨v, s1, t1, q1, hv, hs1⟩ := take_nat (A := A) (s := s) (t := t) (n := 6) (r := [.lst (ps.map tp)]) hs (by omega) (by omega)
  simp at q1
  have qa : ∀ (s t : Int) (p : Pm d), fApp (.loc 1) [tp p] [stt s t, .lst (ps.map tp)] = .ok .non [stt s t, .lst (ps.map tp ++ [tp p])] := fun s t p => x_app (st := [stt s t, .lst (ps.map tp)]) (n := 1) rfl (small1000 (by simp; omega))
  have ql : ∀ (s t : Int), fLen [.loc 1] [stt s t, .lst (ps.map tp)] = .ok (.int (ps.length : Int)) [stt s t, .lst (ps.map tp)] := fun s t => by
    have := x_lenLoc (st := [stt s t, .lst (ps.map tp)]) (i := 1) (xs := ps.map tp) rfl
    rw [List.length_map] at this; exact this
  have z : w62 (d : Int) = true := w62_of (by omega) (by omega)
  by_cases cA : v = 0 ∧ 0 < ps.length
  · obtain ⟨rfl, hp0⟩ := cA
    obtain ⟨u, s2, t2, q2, hu, hs2⟩ := take_nat (A := A) (s := s1) (t := t1) (n := ps.length) (r := [.lst (ps.map tp)]) hs1 hp0 (by omega)
    have qi : fIx (.loc 1) (.int (u : Int)) [stt s2 t2, .lst (ps.map tp)] = .ok (tp ps[u]) [stt s2 t2, .lst (ps.map tp)] := by
      rw [x_ixLoc (xs := ps.map tp) rfl, atI_map (List.getElem?_eq_getElem hu)]
    simp at q1
    refine ⟨ps[u].inv, s2, t2, some (.int 0), τ6, τ7, ?_, hs2⟩
    simp [b_law_system_0, q1, ql, hp0, Fx.listOf, q2, qi, law_inverse_eq (A := A) (p := ps[u]) (by omega), qa]
  · have cA' : ¬ ((v : Int) = 0 ∧ (0 : Int) < (ps.length : Int)) := fun z => cA ⟨by omega, by omega⟩
    obtain ⟨W5, hW5⟩ : ∃ W5 : D, W5 = .int (v : Int) := ⟨_, rfl⟩
    by_cases cB : v = 1 ∧ 1 < d
    · obtain ⟨rfl, hd1⟩ := cB
      obtain ⟨a, s2, t2, q2, ha, hs2⟩ := take_nat (A := A) (s := s1) (t := t1) (n := d) (r := [.lst (ps.map tp)]) hs1 (by omega) (by omega)
      obtain ⟨u, s3, t3, q3, hu, hs3⟩ := take_nat (A := A) (s := s2) (t := t2) (n := d - 1) (r := [.lst (ps.map tp)]) hs2 (by omega) (by omega)
      have em0 : ((a : Int) + 1 + (u : Int)) % (d : Int) = (((a + 1 + u) % d : Nat) : Int) := by simp
      have hb0 : (a + 1 + u) % d < d := Nat.mod_lt _ (by omega)
      obtain ⟨b, hbk⟩ : ∃ b, b = (a + 1 + u) % d := ⟨_, rfl⟩
      rw [← hbk] at em0 hb0
      have ed : (((d - 1 : Nat) : Nat) : Int) = (d : Int) - 1 := by omega
      rw [ed] at q3
      have hd0 : 0 < d := by omega
      have k1 := swap_comp (st := [stt s3 t3, .lst (ps.map tp)]) (τ := [some (.loc 0), some (.int (d : Int)), some (.int k), some (.loc 1), τ4, some (.int 1), some (nD a), some (nD b), τ8]) (by omega) ha hb0 (fun _ => rfl) (fun _ => rfl) (by simp)
      have qa2 := qa s3 t3 (Fx.Pm.swap a b ha hb0)
      refine ⟨Fx.Pm.swap a b ha hb0, s3, t3, some (.int 1), some (nD a), some (nD b), ?_, hs3⟩
      simp at q1
      have hd1i : (1 : Int) < (d : Int) := by omega
      have qa3 : fApp (.loc 1) [.tup ((Fx.Pm.swap a b ha hb0).list.map nD)] [stt s3 t3, .lst (ps.map tp)] = .ok .non [stt s3 t3, .lst (ps.map tp ++ [tp (Fx.Pm.swap a b ha hb0)])] := qa s3 t3 _
      simp [b_law_system_0, q1, Fx.listOf, q2, q3, em0, hd0, hd1i, z, range_nD, k1, qa3]
    · have hd0 : 0 < d := by omega
      by_cases cC : v = 2
      · subst cC
        have k1 := shift_comp (st := [stt s1 t1, .lst (ps.map tp)]) (τ := [some (.loc 0), some (.int (d : Int)), some (.int k), some (.loc 1), τ4, some (.int 2), τ6, τ7, τ8]) (by omega) hd0 (fun _ => rfl) (by simp)
        have qa3 : fApp (.loc 1) [.tup ((shift d hd0).list.map nD)] [stt s1 t1, .lst (ps.map tp)] = .ok .non [stt s1 t1, .lst (ps.map tp ++ [tp (shift d hd0)])] := qa s1 t1 _
        refine ⟨shift d hd0, s1, t1, some (.int 2), τ6, τ7, ?_, hs1⟩
        simp at q1
        simp [b_law_system_0, q1, Fx.listOf, z, range_nD, k1, qa3]
      · obtain ⟨p, s2, t2, q2, hs2⟩ := permutation_r (A := A) (d := d) (s := s1) (t := t1) (r := [.lst (ps.map tp)]) hs1 (by omega) (fun i o h => by
          cases i with
          | zero => simp at h; subst h; exact wf_lfs _ (by simp [lfs_all, List.all_map])
          | succ i => simp at h)
        have c2 : ¬ (v : Int) = 2 := by omega
        have cB' : (v : Int) = 1 → ¬ (1 : Int) < (d : Int) := fun e z => cB ⟨by omega, by omega⟩
        have cA2 : (v : Int) = 0 → ¬ (0 : Int) < (ps.length : Int) := fun e z => cA ⟨by omega, by omega⟩
        refine ⟨p, s2, t2, some (.int (v : Int)), τ6, τ7, ?_, hs2⟩
        by_cases v0 : v = 0
        · subst v0
          have n0 : ps.length = 0 := by have := cA2 rfl; omega
          simp at q1
          simp [b_law_system_0, q1, ql, Fx.listOf, n0, q2, qa]
        · by_cases v1 : v = 1
          · subst v1
            have n1 := cB' rfl
            simp at q1
            simp [b_law_system_0, q1, ql, Fx.listOf, n1, q2, qa]
          · have c1 : ¬ (v : Int) = 1 := by omega
            have c0 : ¬ (v : Int) = 0 := by omega
            simp [b_law_system_0, q1, ql, Fx.listOf, v0, v1, c0, c1, c2, cC, q2, qa]
end K21

set_option Elab.async false
set_option linter.all false
set_option maxRecDepth 100000
set_option maxHeartbeats 4000000
namespace K21
open PySem L2 Fx
variable {A : Nat → Addr} {d : Nat}
theorem law_system_eq {s t : Int} {k : Nat} (hs : 0 ≤ s) (hd : 1 ≤ d) (hd2 : d ≤ 24) (hk : k ≤ 12) : ∃ (ps : List (Pm d)) (s' t' : Int), S_law_system A [.loc 0, .int (d : Int), .int (k : Int)] [stt s t] = .ok (sysD ps) [stt s' t'] ∧ 0 ≤ s' ∧ ps.length = k := by
  have key := forS_ind (g := gN 4) (b := B_law_system_0 A)
    (P := fun ds τ st => ∃ (s t : Int) (ps : List (Pm d)) (τ4 τ5 τ6 τ7 τ8 : Option D), τ = [some (.loc 0), some (.int (d : Int)), some (.int (k : Int)), some (.loc 1), τ4, τ5, τ6, τ7, τ8] ∧ st = [stt s t, .lst (ps.map tp)] ∧ 0 ≤ s ∧ ps.length + ds.length = k)
    (fun y ys τ st ⟨s, t, ps, τ4, τ5, τ6, τ7, τ8, e1, e2, hs, hl⟩ => by
      subst e1 e2
      simp only [List.length_cons] at hl
      obtain ⟨q, s', t', τ5', τ6', τ7', e, hs'⟩ := system_step (A := A) (s := s) (t := t) (ps := ps) (k := (k : Int)) (τ4 := some y) (τ5 := τ5) (τ6 := τ6) (τ7 := τ7) (τ8 := τ8) hs hd hd2 (by omega)
      exact ⟨_, rfl, _, _, .inl e, s', t', ps ++ [q], some y, τ5', τ6', τ7', τ8, rfl, rfl, hs', by simp; omega⟩)
    (rangeD 0 (k : Int)) [some (.loc 0), some (.int (d : Int)), some (.int (k : Int)), some (.loc 1), none, none, none, none, none] [stt s t, .lst []] ⟨s, t, [], none, none, none, none, none, rfl, rfl, hs, by simp⟩
  obtain ⟨τ', st', e, s', t', ps, τ4, τ5, τ6, τ7, τ8, e1, e2, hs', hl⟩ := key
  subst e1 e2
  refine ⟨ps, s', t', ?_, hs', by simpa using hl⟩
  rw [S_law_system_eq]
  refine gc_ok' [.lst (ps.map tp)] (runF_rt ?_) rfl ?_ (wf_lf _ (by simp [sysD]))
  · have z : w62 (k : Int) = true := w62_of (by omega) (by omega)
    have qt := x_tupleLoc (st := [stt s' t', .lst (ps.map tp)]) (i := 1) (xs := ps.map tp) rfl
    simp [m_law_system, N_law_system, z, e, qt, sysD, rD]
  · intro i o h
    cases i with
    | zero => simp at h; subst h; simp [WfO, WfDs, WfD]
    | succ i => simp at h
end K21

set_option Elab.async false
set_option linter.all false
set_option maxRecDepth 100000
set_option maxHeartbeats 4000000
namespace K21
open PySem L2 Fx
variable {A : Nat → Addr} {d : Nat}
theorem wact_bk (ps : List (Pm d)) (is : List Int) (hi : ∀ i ∈ is, i ≠ 0) : wact ps (bk is) = (wact ps is).inv := by
  induction is with
  | nil => rfl
  | cons i is ih =>
    have e : bk (i :: is) = bk is ++ [-i] := by simp [bk]
    have h0 := hi i List.mem_cons_self
    have ea : act ps (-i) = (act ps i).inv := by
      unfold act
      by_cases c : 0 < i
      · rw [if_neg (by omega), if_pos c, Int.natAbs_neg]
      · rw [if_pos (by omega), if_neg c, Int.natAbs_neg, Pm.inv_inv]
    rw [e, wact_app, ih (fun j hj => hi j (List.mem_cons_of_mem _ hj)), wact_cons, wact_cons, Pm.inv_of_mul, ea]
    rfl
theorem bk_len (is : List Int) : (bk is).length = is.length := by simp [bk]
theorem bk_let {k : Nat} {is : List Int} (h : ∀ i ∈ is, 1 ≤ i.natAbs ∧ i.natAbs ≤ k) : ∀ i ∈ bk is, 1 ≤ i.natAbs ∧ i.natAbs ≤ k := by
  intro i hi
  simp only [bk, List.mem_map, List.mem_reverse] at hi
  obtain ⟨j, hj, rfl⟩ := hi
  rw [Int.natAbs_neg]; exact h j hj
theorem app_let {k : Nat} {a b : List Int} (h : ∀ i ∈ a, 1 ≤ i.natAbs ∧ i.natAbs ≤ k) (h2 : ∀ i ∈ b, 1 ≤ i.natAbs ∧ i.natAbs ≤ k) : ∀ i ∈ a ++ b, 1 ≤ i.natAbs ∧ i.natAbs ≤ k := by
  intro i hi
  rcases List.mem_append.mp hi with hi | hi
  · exact h i hi
  · exact h2 i hi
theorem red_bk : ∀ (n : Nat) (l : List Int), l.length = n → red (l ++ bk l) = []
  | 0, l, h => by
    have : l = [] := List.length_eq_zero_iff.mp h
    subst this; rfl
  | n + 1, l, h => by
    obtain ⟨l', x, rfl⟩ : ∃ l' x, l = l' ++ [x] := ⟨l.dropLast, l.getLast (by intro e; subst e; simp at h), (List.dropLast_concat_getLast _).symm⟩
    have e : (l' ++ [x]) ++ bk (l' ++ [x]) = l' ++ x :: -x :: bk l' := by simp [bk]
    rw [e, red_cancel l' (bk l') (by omega), red_bk n l' (by simpa using h)]
/-! ### what is told -/
theorem inner_wD {n : Nat} {is : List Int} {st : Store} (h : is.length ≤ 1000) : S_law_inner A (n + 2) [wD is] st = .ok (wD is) st := by
  refine inner_tup (fun x hx => ?_) (by simpa using h) lf_wD
  obtain ⟨i, _, rfl⟩ := List.mem_map.mp hx
  exact inner_int
theorem inner_tp {n : Nat} {p : Pm d} {st : Store} (h : d ≤ 1000) : S_law_inner A (n + 2) [tp p] st = .ok (tp p) st := by
  refine inner_tup (fun x hx => ?_) (by simp [p.len]; omega) (lf_tp p)
  obtain ⟨i, _, rfl⟩ := List.mem_map.mp hx
  exact inner_int
theorem inner_rD {n : Nat} {ps : List (Pm d)} {st : Store} (h : d ≤ 1000) (hl : ps.length ≤ 1000) : S_law_inner A (n + 3) [rD ps] st = .ok (rD ps) st := by
  refine inner_tup (fun x hx => ?_) (by simpa using hl) (lf_rD ps)
  obtain ⟨i, _, rfl⟩ := List.mem_map.mp hx
  exact inner_tp h
theorem inner_sysD {n : Nat} {ps : List (Pm d)} {st : Store} (h : d ≤ 1000) (hl : ps.length ≤ 1000) : S_law_inner A (n + 4) [sysD ps] st = .ok (sysD ps) st := by
  refine inner_tup (fun x hx => ?_) (by simp) (by simp [sysD])
  simp only [List.mem_cons, List.not_mem_nil, or_false] at hx
  rcases hx with rfl | rfl
  · exact inner_int
  · exact inner_rD h hl
theorem plain_tup {xs : List D} {st : Store} (h : S_law_inner A 4 [.tup xs] st = .ok (.tup xs) st) (hf : lf (.tup xs) = true) : S_law_plain A [.tup xs] st = .ok (.tup xs) st := by
  rw [S_law_plain_eq]
  refine gc_ok [] (runF_rt ?_) (wf_lf _ hf)
  simp [m_law_plain, N_law_plain, h]
theorem plain_wD {is : List Int} {st : Store} (h : is.length ≤ 1000) : S_law_plain A [wD is] st = .ok (wD is) st := plain_tup (inner_wD h) lf_wD
theorem plain_tp {p : Pm d} {st : Store} (h : d ≤ 1000) : S_law_plain A [tp p] st = .ok (tp p) st := plain_tup (inner_tp h) (lf_tp p)
theorem plain_sysD {ps : List (Pm d)} {st : Store} (h : d ≤ 1000) (hl : ps.length ≤ 1000) : S_law_plain A [sysD ps] st = .ok (sysD ps) st := plain_tup (inner_sysD h hl) (by simp [sysD])
theorem plain_int {i : Int} {st : Store} : S_law_plain A [.int i] st = .ok (.int i) st := by
  rw [S_law_plain_eq]
  refine gc_ok [] (runF_rt ?_) (by simp [WfD])
  simp [m_law_plain, N_law_plain, inner_int (A := A) (n := 3) (i := i) (st := st)]
theorem told0_of {x y z v : D} {st : Store} (h : S_inverse_word A [x, y] st = .ok v st) (hp : S_law_plain A [v] st = .ok v st) (hv : lf v = true) : S_law_told A [.int 0, x, y, z] st = .ok v st := by
  rw [S_law_told_eq]
  refine gc_ok [] (runF_rt ?_) (wf_lf _ hv)
  simp [m_law_told, N_law_told, h, hp]
theorem told0_er {x y z : D} {st : Store} (h : S_inverse_word A [x, y] st = .er ⟨A 2, none⟩ st) : S_law_told A [.int 0, x, y, z] st = .ok RM st := by
  rw [S_law_told_eq]
  refine gc_ok [] (runF_rt ?_) (wf_lf _ (by rfl))
  simp [m_law_told, N_law_told, h, RM]
theorem told1_of {x y z v : D} {st : Store} (h : S_reduced_word A [x, y] st = .ok v st) (hp : S_law_plain A [v] st = .ok v st) (hv : lf v = true) : S_law_told A [.int 1, x, y, z] st = .ok v st := by
  rw [S_law_told_eq]
  refine gc_ok [] (runF_rt ?_) (wf_lf _ hv)
  simp [m_law_told, N_law_told, h, hp]
theorem told1_er {x y z : D} {st : Store} (h : S_reduced_word A [x, y] st = .er ⟨A 2, none⟩ st) : S_law_told A [.int 1, x, y, z] st = .ok RM st := by
  rw [S_law_told_eq]
  refine gc_ok [] (runF_rt ?_) (wf_lf _ (by rfl))
  simp [m_law_told, N_law_told, h, RM]
theorem told2_of {x y z v : D} {st : Store} (h : S_walk_word A [x, y, z] st = .ok v st) (hp : S_law_plain A [v] st = .ok v st) (hv : lf v = true) : S_law_told A [.int 2, x, y, z] st = .ok v st := by
  rw [S_law_told_eq]
  refine gc_ok [] (runF_rt ?_) (wf_lf _ hv)
  simp [m_law_told, N_law_told, h, hp]
theorem told2_er {x y z : D} {st : Store} (h : S_walk_word A [x, y, z] st = .er ⟨A 2, none⟩ st) : S_law_told A [.int 2, x, y, z] st = .ok RM st := by
  rw [S_law_told_eq]
  refine gc_ok [] (runF_rt ?_) (wf_lf _ (by rfl))
  simp [m_law_told, N_law_told, h, RM]
theorem told3_of {x y z v : D} {st : Store} (h : S_word_permutation A [x, y] st = .ok v st) (hp : S_law_plain A [v] st = .ok v st) (hv : lf v = true) : S_law_told A [.int 3, x, y, z] st = .ok v st := by
  rw [S_law_told_eq]
  refine gc_ok [] (runF_rt ?_) (wf_lf _ hv)
  simp [m_law_told, N_law_told, h, hp]
theorem told3_er {x y z : D} {st : Store} (h : S_word_permutation A [x, y] st = .er ⟨A 2, none⟩ st) : S_law_told A [.int 3, x, y, z] st = .ok RM st := by
  rw [S_law_told_eq]
  refine gc_ok [] (runF_rt ?_) (wf_lf _ (by rfl))
  simp [m_law_told, N_law_told, h, RM]
theorem told4_er {x y z : D} {st : Store} (h : S_is_word A [x, y] st = .er ⟨A 2, none⟩ st) : S_law_told A [.int 4, x, y, z] st = .ok RM st := by
  rw [S_law_told_eq]
  refine gc_ok [] (runF_rt ?_) (wf_lf _ (by rfl))
  simp [m_law_told, N_law_told, h, RM]
theorem told5_of {x y z v : D} {st : Store} (h : S_told_system A [x, y] st = .ok v st) (hp : S_law_plain A [v] st = .ok v st) (hv : lf v = true) : S_law_told A [.int 5, x, y, z] st = .ok v st := by
  rw [S_law_told_eq]
  refine gc_ok [] (runF_rt ?_) (wf_lf _ hv)
  simp [m_law_told, N_law_told, h, hp]
theorem told5_er {x y z : D} {st : Store} (h : S_told_system A [x, y] st = .er ⟨A 2, none⟩ st) : S_law_told A [.int 5, x, y, z] st = .ok RM st := by
  rw [S_law_told_eq]
  refine gc_ok [] (runF_rt ?_) (wf_lf _ (by rfl))
  simp [m_law_told, N_law_told, h, RM]
/-! ### what is told of words that hold -/
theorem tell0 {k : Nat} {is : List Int} {z : D} {st : Store} (h : Wd k is) (hk : k ≤ 12) (hl : is.length ≤ 1000) : S_law_told A [.int 0, wD is, .int (k : Int), z] st = .ok (wD (bk is)) st :=
  told0_of (inverse_word_ok h hk) (plain_wD (by rw [bk_len]; exact hl)) lf_wD
theorem tell1 {k : Nat} {is : List Int} {z : D} {st : Store} (h : Wd k is) (hk : k ≤ 12) (hl : (red is).length ≤ 1000) : S_law_told A [.int 1, wD is, .int (k : Int), z] st = .ok (wD (red is)) st :=
  told1_of (reduced_ok h hk) (plain_wD hl) lf_wD
theorem tell2 {ps : List (Pm d)} {is : List Int} {x : Nat} {st : Store} (h : Sys ps) (hw : Wd ps.length is) (hx : x < d) : S_law_told A [.int 2, sysD ps, nD x, wD is] st = .ok (nD ((wact ps is).f x)) st :=
  told2_of (walk_word_ok h hw hx) plain_int rfl
theorem tell3 {ps : List (Pm d)} {is : List Int} {z : D} {st : Store} (h : Sys ps) (hw : Wd ps.length is) : S_law_told A [.int 3, sysD ps, wD is, z] st = .ok (tp (wact ps is)) st :=
  told3_of (word_perm_ok h hw) (plain_tp (by have := h.few; omega)) (lf_tp _)
theorem tell5 {ps : List (Pm d)} {ws : List (List Int)} {z : D} {st : Store} (h : Sys ps) (hw : ∀ w ∈ ws, Wd ps.length w) (hl : ws.length ≤ 12) : S_law_told A [.int 5, sysD ps, .tup (ws.map wD), z] st = .ok (sysD (ws.map (wact ps))) st :=
  told5_of (told_system_ok h hw hl) (plain_sysD (by have := h.few; omega) (by simp; omega)) (by simp [sysD])
end K21

set_option Elab.async false
set_option linter.all false
set_option maxRecDepth 100000
set_option maxHeartbeats 4000000
namespace K21
open PySem L2 Fx
variable {A : Nat → Addr} {d : Nat}
def rms (n : Nat) : D := .lst (List.replicate n RM)
theorem fl_rms {n : Nat} : Fl 2 (rms n) := Fl.lst fun x hx => by
  have := List.eq_of_mem_replicate hx
  subst this; exact fl_RM
theorem ne_rms {n : Nat} {st : Store} : fNe (rms n) (rms n) st = .ok (.bl false) st := fNe_self fl_rms
theorem eq_rms {n : Nat} {st : Store} : fEq (rms n) (rms n) st = .ok (.bl true) st := fEq_self fl_rms
theorem hRM : D.tup [.str "raised", .str "malformed"] = RM := rfl
theorem mul3 {τ : En} {st : Store} : mMulD (mCons (mTup (mCons (mC (.str "raised")) (mCons (mC (.str "malformed")) mNil))) mNil) (mC (.int 3)) τ st = .ok (List.replicate 3 RM) st := by
  have z63 : w63 3 = true := w63_of (by omega) (by omega)
  have zs : szFits 3 = true := szFits_of (by omega)
  simp [z63, zs, hRM, List.replicate_succ]
theorem mul4 {τ : En} {st : Store} : mMulD (mCons (mTup (mCons (mC (.str "raised")) (mCons (mC (.str "malformed")) mNil))) mNil) (mC (.int 4)) τ st = .ok (List.replicate 4 RM) st := by
  have z63 : w63 4 = true := w63_of (by omega) (by omega)
  have zs : szFits 4 = true := szFits_of (by omega)
  simp [z63, zs, hRM, List.replicate_succ]
theorem mul5 {τ : En} {st : Store} : mMulD (mCons (mTup (mCons (mC (.str "raised")) (mCons (mC (.str "malformed")) mNil))) mNil) (mC (.int 5)) τ st = .ok (List.replicate 5 RM) st := by
  have z63 : w63 5 = true := w63_of (by omega) (by omega)
  have zs : szFits 5 = true := szFits_of (by omega)
  simp [z63, zs, hRM, List.replicate_succ]
theorem r3 {st : Store} : fNe (.lst [RM, RM, RM]) (.lst [RM, RM, RM]) st = .ok (.bl false) st := ne_rms (n := 3)
theorem r5 {st : Store} : fNe (.lst [RM, RM, RM, RM, RM]) (.lst [RM, RM, RM, RM, RM]) st = .ok (.bl false) st := ne_rms (n := 5)
theorem r4 {st : Store} : fEq (.lst [RM, RM, RM, RM]) (.lst [RM, RM, RM, RM]) st = .ok (.bl true) st := eq_rms (n := 4)
/-! ### values that are no systems -/
def BadS (A : Nat → Addr) (x : D) : Prop := ∀ st, S_is_system A [x] st = .ok (.bl false) st
theorem badS1 : BadS A .non := fun st => by
  rw [S_is_system_eq]
  refine gc_ok [] (runF_rt ?_) (by simp [WfD])
  simp [m_is_system, N_is_system]
theorem badS2 {x : D} : BadS A (.tup [x]) := fun st => by
  rw [S_is_system_eq]
  refine gc_ok [] (runF_rt ?_) (by simp [WfD])
  simp [m_is_system, N_is_system]
theorem badS3 : BadS A (.tup [.int 2, .tup [.tup [.int 0, .int 0]]]) := fun st => by
  have hi := is_integer_eq (A := A) (x := .int 2) (st := st) rfl
  have hp := perm_any (A := A) (x := .tup [.int 0, .int 0]) (st := st) ⟨rfl, fun ys e => by
    have e2 : ys = [.int 0, .int 0] := by injection e with e; exact e.symm
    subst e2
    exact ⟨by simp [pl], by simp⟩⟩
  have hf : isP (.tup [.int 0, .int 0]) = false := by decide +kernel
  rw [hf] at hp
  have k1 : compS (gN 3) mYes (e_is_system_0 (S_is_permutation A)) [3] [.tup [.int 0, .int 0]] [some (.tup [.int 2, .tup [.tup [.int 0, .int 0]]]), some (.int 2), some (.tup [.tup [.int 0, .int 0]]), none] st [] = .ok [.bl false] st := by
    rw [compS_map (f := fun _ => D.bl false)]
    · simp
    · intro p hp2
      rw [List.mem_singleton] at hp2
      subst hp2
      exact ⟨_, rfl, rfl, by simp [e_is_system_0, hp]⟩
    · exact small (by simp)
  have a1 : fAll [.lst [.bl false]] st = .ok (.bl false) st := by
    have : fAll [.lst ([false].map D.bl)] st = .ok (.bl false) st := by
      unfold fAll
      rw [x_onBls]; rfl
    exact this
  rw [S_is_system_eq]
  refine gc_ok [] (runF_rt ?_) (by simp [WfD])
  simp [m_is_system, N_is_system, hi, isI, k1, a1]
theorem badS4 {x : D} : BadS A (.tup [.int 25, x]) := fun st => by
  have hi := is_integer_eq (A := A) (x := .int 25) (st := st) rfl
  rw [S_is_system_eq]
  refine gc_ok [] (runF_rt ?_) (by simp [WfD])
  simp [m_is_system, N_is_system, hi, isI]
theorem badS_told {x y z : D} (h : BadS A x) {st : Store} : S_law_told A [.int 2, x, y, z] st = .ok RM st ∧ S_law_told A [.int 3, x, y, z] st = .ok RM st ∧ S_law_told A [.int 5, x, y, z] st = .ok RM st := by
  have c : S_check_system A [x] st = .er ⟨A 2, none⟩ st := by rw [check_system_of (h st)]; rfl
  exact ⟨told2_er (walk_word_er1 c), told3_er (word_perm_er1 c), told5_er (told_system_er1 c)⟩
/-! ### values that are no words -/
structure BadW (k : Nat) (x : D) : Prop where
  ok : okW x
  no : wordB x k = false
theorem badW_of {k : Nat} {x : D} (h : pl x = true) (h2 : ∀ ys, x ≠ .tup ys) : BadW k x := ⟨⟨h, fun ys e => absurd e (h2 ys)⟩, by cases x <;> first | rfl | exact absurd rfl (h2 _)⟩
theorem badW_app {k : Nat} {is : List Int} {x : D} (hp : pl x = true) (hx : letB x k = false) : BadW k (.tup (is.map D.int ++ [x])) := by
  refine ⟨⟨rfl, fun ys e => ?_⟩, by simp [wordB, hx]⟩
  have e2 : ys = is.map D.int ++ [x] := by injection e with e; exact e.symm
  subst e2
  intro y hy
  rcases List.mem_append.mp hy with hy | hy
  · obtain ⟨n, _, rfl⟩ := List.mem_map.mp hy; rfl
  · rw [List.mem_singleton] at hy; subst hy; exact hp
theorem bad_five {ps : List (Pm d)} {k : Nat} {x : D} {st : Store} (h : Sys ps) (hk : ps.length = k) (hd : 1 ≤ d) (b : BadW k x) :
    S_law_told A [.int 0, x, .int (k : Int), .int 0] st = .ok RM st ∧ S_law_told A [.int 1, x, .int (k : Int), .int 0] st = .ok RM st ∧ S_law_told A [.int 2, sysD ps, .int 0, x] st = .ok RM st ∧ S_law_told A [.int 3, sysD ps, x, .int 0] st = .ok RM st ∧ S_law_told A [.int 5, sysD ps, .tup [x], .int 0] st = .ok RM st := by
  subst hk
  have c := check_word_bad (A := A) (st := st) b.ok h.rank b.no
  refine ⟨told0_er (inverse_word_er c), told1_er (reduced_er c), told2_er (walk_word_er3 (x := 0) h (by omega) b.ok b.no), told3_er (word_perm_er2 h b.ok b.no), told5_er (told_system_er2 h rfl (fun ws e w hw => ?_) (by simp [wordsB, b.no]))⟩
  have e2 : ws = [x] := by injection e with e; exact e.symm
  subst e2
  rw [List.mem_singleton] at hw
  subst hw; exact b.ok
theorem rank_three {y : D} {st : Store} (h : pl y = true) (hr : rankB y = false) :
    S_law_told A [.int 0, .tup [], y, .int 0] st = .ok RM st ∧ S_law_told A [.int 1, .tup [], y, .int 0] st = .ok RM st ∧ S_law_told A [.int 4, .tup [], y, .int 0] st = .ok RM st := by
  have c := is_word_rank (A := A) (x := .tup []) (st := st) h hr
  exact ⟨told0_er (inverse_word_er (check_word_er c)), told1_er (reduced_er (check_word_er c)), told4_er c⟩
theorem RTs_post {a b : SS} {τ : En} {st S : Store} {v : D} (Φ : En → Store → Prop) (h : ∃ τ1 st1, a τ st = .nx τ1 st1 ∧ Φ τ1 st1) (k : ∀ τ1 st1, Φ τ1 st1 → b τ1 st1 = .rt v S) : sSeq a b τ st = .rt v S := by
  obtain ⟨τ1, st1, e, hΦ⟩ := h
  rw [x_sSeq, e, Rt.seq_nx]
  exact k _ _ hΦ
theorem bad_hold_eq {ps : List (Pm d)} {is : List Int} {st : Store} (h : Sys ps) (hd : 1 ≤ d) (hw : Wd ps.length is) : S_law_bad_hold A [sysD ps, wD is, .int (ps.length : Int)] st = .ok (.bl true) st := by
  obtain ⟨k, hk⟩ : ∃ k, ps.length = k := ⟨_, rfl⟩
  have hk12 : k ≤ 12 := by rw [← hk]; exact h.rank
  have hd24 := h.few
  rw [hk] at hw ⊢
  have hlen := hw.len
  suffices hh : m_law_bad_hold (S_law_says A) (S_law_is_word A) (S_law_told A) (S_is_word A) [some (sysD ps), some (wD is), some (.int (k : Int)), none, none, none, none, none, none] st = .rt (.bl true) st by
    rw [S_law_bad_hold_eq]
    exact gc_ok [] (by rw [List.append_nil]; exact runF_rt hh) (by simp [WfD])
  unfold m_law_bad_hold
  refine RTs_post (fun τ st' => ∃ bad : List D, τ = [some (sysD ps), some (wD is), some (.int (k : Int)), some (.lst bad), none, none, none, none, none] ∧ st' = st ∧ ∀ x ∈ bad, BadW k x) ?_ ?_
  · have hL : fList [wD is] st = .ok (is.map D.int) st := rfl
    have ha : ∀ x : D, fAdd (wD is) (.tup [x]) st = .ok (.tup (is.map D.int ++ [x])) st := fun x => by
      rw [wD, x_addT, if_pos (szFits_iff.mpr (by rw [PySem.sizeLine_eq]; simp; omega))]
    obtain ⟨M, hM, hb⟩ : ∃ M, fMul (.tup [.int 1]) (.int 2001) st = .ok M st ∧ BadW k M := by
      refine ⟨_, by rw [x_mulT, if_pos (repFits_iff.mpr ⟨by simp, by omega, by omega, by simp⟩)], ⟨rfl, fun ys e => ?_⟩, ?_⟩
      · have e2 : ys = (List.replicate (2001 : Int).toNat [D.int 1]).flatten := by injection e with e; exact e.symm
        subst e2
        intro y hy
        obtain ⟨l, hl1, hl2⟩ := List.mem_flatten.mp hy
        have := List.eq_of_mem_replicate hl1
        subst this
        rw [List.mem_singleton] at hl2; subst hl2; rfl
      · rw [wordB, decide_eq_false]
        · rfl
        · rw [PyProof.Rows.lm_len_rep_flat]; show ¬ 2001 * 1 ≤ 2000; omega
    refine ⟨[some (sysD ps), some (wD is), some (.int (k : Int)), some (.lst [.non, .int 5, .lst (is.map D.int), .tup (is.map D.int ++ [.int 0]), .tup (is.map D.int ++ [.int ((k : Int) + 1)]), .tup (is.map D.int ++ [.int (-(k : Int) - 1)]), .tup (is.map D.int ++ [.bl true]), .tup (is.map D.int ++ [.str "1"]), .str "1", .tup [.non], M]), none, none, none, none, none], st, ?_, _, rfl, rfl, ?_⟩
    · simp [hL, ha, hM, -x_mulT, -x_addT]
    · intro x hx
      simp only [List.mem_cons, List.not_mem_nil, or_false] at hx
      rcases hx with rfl | rfl | rfl | rfl | rfl | rfl | rfl | rfl | rfl | rfl | rfl
      · exact badW_of rfl (fun _ e => by cases e)
      · exact badW_of rfl (fun _ e => by cases e)
      · exact badW_of rfl (fun _ e => by cases e)
      · exact badW_app rfl (by simp [letB])
      · exact badW_app rfl (decide_eq_false (by omega))
      · exact badW_app rfl (decide_eq_false (by omega))
      · exact badW_app rfl rfl
      · exact badW_app rfl rfl
      · exact badW_of rfl (fun _ e => by cases e)
      · exact badW_app (is := []) rfl rfl
      · exact hb
  rintro _ st ⟨bad, rfl, rfl, hbad⟩
  refine RTs_post (fun τ st' => ∃ (τ4 τ5 : Option D), τ = [some (sysD ps), some (wD is), some (.int (k : Int)), some (.lst bad), τ4, τ5, none, none, none] ∧ st' = st) ?_ ?_
  · obtain ⟨τ', st', e, τ4, τ5, e1, e2, _⟩ := forS_ind (g := gN 4) (b := B_law_bad_hold_2 A)
      (P := fun ds τ st' => ∃ (τ4 τ5 : Option D), τ = [some (sysD ps), some (wD is), some (.int (k : Int)), some (.lst bad), τ4, τ5, none, none, none] ∧ st' = st ∧ ∀ x ∈ ds, BadW k x)
      (fun y ys τ st' ⟨τ4, τ5, e1, e2, e3⟩ => by
        subst e1 e2
        have hy := e3 y List.mem_cons_self
        obtain ⟨t0, t1, t2, t3, t5⟩ := bad_five (A := A) (st := st') h hk hd hy
        have w1 := is_word_eq (A := A) (k := k) (st := st') hy.ok hk12
        have w2 := law_is_word_eq (A := A) (k := k) (st := st') hy.ok
        rw [hy.no] at w1 w2
        have sy := says_eq (A := A) (a := false) (st := st')
        refine ⟨_, rfl, _, st', .inl ?_, some y, some (.lst [RM, RM, RM, RM, RM]), rfl, rfl, fun x hx => e3 x (List.mem_cons_of_mem _ hx)⟩
        simp [b_law_bad_hold_2, w1, w2, sy, t0, t1, t2, t3, t5, mul5, r5, -x_mMulD])
      bad [some (sysD ps), some (wD is), some (.int (k : Int)), some (.lst bad), none, none, none, none, none] st ⟨none, none, rfl, rfl, hbad⟩
    subst e1 e2
    exact ⟨_, _, by first | (simp [e]; done) | (simp [e]; exact ⟨rfl, rfl⟩) | (simp [e]; rfl), τ4, τ5, rfl, rfl⟩
  rintro _ st ⟨τ4, τ5, rfl, rfl⟩
  refine RTs_post (fun τ st' => ∃ (τ6 : Option D), τ = [some (sysD ps), some (wD is), some (.int (k : Int)), some (.lst bad), τ4, τ5, τ6, none, none] ∧ st' = st) ?_ ?_
  · obtain ⟨τ', st', e, τ6, e1, e2, _⟩ := forS_ind (g := gN 6) (b := B_law_bad_hold_1 A)
      (P := fun ds τ st' => ∃ (τ6 : Option D), τ = [some (sysD ps), some (wD is), some (.int (k : Int)), some (.lst bad), τ4, τ5, τ6, none, none] ∧ st' = st ∧ ∀ x ∈ ds, pl x = true ∧ rankB x = false)
      (fun y ys τ st' ⟨τ6, e1, e2, e3⟩ => by
        subst e1 e2
        obtain ⟨h1, h2⟩ := e3 y List.mem_cons_self
        obtain ⟨t0, t1, t4⟩ := rank_three (A := A) (st := st') h1 h2
        refine ⟨_, rfl, _, st', .inl ?_, some y, rfl, rfl, fun x hx => e3 x (List.mem_cons_of_mem _ hx)⟩
        have k1 : compS (gN 8) mYes (e_law_bad_hold_1 (S_law_told A)) [8] [.int 0, .int 1, .int 4] [some (sysD ps), some (wD is), some (.int (k : Int)), some (.lst bad), τ4, τ5, some y, none, none] st' [] = .ok [RM, RM, RM] st' := by
          rw [compS_map (f := fun _ => RM)]
          · rfl
          · intro x hx
            simp only [List.mem_cons, List.not_mem_nil, or_false] at hx
            rcases hx with rfl | rfl | rfl
            · exact ⟨_, rfl, rfl, by simp [e_law_bad_hold_1, t0]⟩
            · exact ⟨_, rfl, rfl, by simp [e_law_bad_hold_1, t1]⟩
            · exact ⟨_, rfl, rfl, by simp [e_law_bad_hold_1, t4]⟩
          · exact small (by simp)
        simp [b_law_bad_hold_1, k1, mul3, r3, -x_mMulD])
      [.int (-1), .int 13, .non, .bl true, .str "2"] [some (sysD ps), some (wD is), some (.int (k : Int)), some (.lst bad), τ4, τ5, none, none, none] st ⟨none, rfl, rfl, fun x hx => by
        simp only [List.mem_cons, List.not_mem_nil, or_false] at hx
        rcases hx with rfl | rfl | rfl | rfl | rfl
        · exact ⟨rfl, rfl⟩
        · exact ⟨rfl, rfl⟩
        · exact ⟨rfl, rfl⟩
        · exact ⟨rfl, rfl⟩
        · exact ⟨rfl, rfl⟩⟩
    subst e1 e2
    exact ⟨_, _, by first | (simp [e]; done) | (simp [e]; exact ⟨rfl, rfl⟩) | (simp [e]; rfl), τ6, rfl, rfl⟩
  rintro _ st ⟨τ6, rfl, rfl⟩
  refine RTs_post (fun τ st' => ∃ (τ7 : Option D), τ = [some (sysD ps), some (wD is), some (.int (k : Int)), some (.lst bad), τ4, τ5, τ6, τ7, none] ∧ st' = st) ?_ ?_
  · obtain ⟨τ', st', e, τ7, e1, e2, _⟩ := forS_ind (g := gN 7) (b := B_law_bad_hold_0 A)
      (P := fun ds τ st' => ∃ (τ7 : Option D), τ = [some (sysD ps), some (wD is), some (.int (k : Int)), some (.lst bad), τ4, τ5, τ6, τ7, none] ∧ st' = st ∧ ∀ x ∈ ds, pl x = true ∧ sheetB x d = false)
      (fun y ys τ st' ⟨τ7, e1, e2, e3⟩ => by
        subst e1 e2
        obtain ⟨h1, h2⟩ := e3 y List.mem_cons_self
        have t2 := told2_er (A := A) (z := wD is) (walk_word_er2 (A := A) (y := wD is) (st := st') h h1 h2)
        refine ⟨_, rfl, _, st', .inl ?_, some y, rfl, rfl, fun x hx => e3 x (List.mem_cons_of_mem _ hx)⟩
        simp [b_law_bad_hold_0, t2, hRM, ne_RM])
      [.int (-1), .int (d : Int), .non, .bl true, .str "0"] [some (sysD ps), some (wD is), some (.int (k : Int)), some (.lst bad), τ4, τ5, τ6, none, none] st ⟨none, rfl, rfl, fun x hx => by
        simp only [List.mem_cons, List.not_mem_nil, or_false] at hx
        rcases hx with rfl | rfl | rfl | rfl | rfl
        · exact ⟨rfl, rfl⟩
        · exact ⟨rfl, decide_eq_false (by omega)⟩
        · exact ⟨rfl, rfl⟩
        · exact ⟨rfl, rfl⟩
        · exact ⟨rfl, rfl⟩⟩
    subst e1 e2
    exact ⟨_, _, by first | (simp [fIx0, e]; done) | (simp [fIx0, e]; exact ⟨rfl, rfl⟩) | (simp [fIx0, e]; rfl), τ7, rfl, rfl⟩
  rintro _ st ⟨τ7, rfl, rfl⟩
  have hL : fList [.tup [wD is]] st = .ok [wD is] st := rfl
  obtain ⟨M, hM, eM⟩ : ∃ M, fMul (.tup [wD is]) (.int 13) st = .ok M st ∧ M = .tup (List.replicate 13 (wD is)) := by
    refine ⟨_, by rw [x_mulT, if_pos (repFits_iff.mpr ⟨by simp, by omega, by omega, by simp⟩)], by simp [List.replicate_succ]⟩
  have k1 : compS (gN 4) mYes (e_law_bad_hold_0 (S_law_told A)) [4] [.non, .lst [wD is], M, .int 5] [some (sysD ps), some (wD is), some (.int (k : Int)), some (.lst bad), τ4, τ5, τ6, τ7, none] st [] = .ok [RM, RM, RM, RM] st := by
    rw [compS_map (f := fun _ => RM)]
    · rfl
    · intro x hx
      have hx2 : pl x = true ∧ (∀ ws, x = .tup ws → ∀ w ∈ ws, okW w) ∧ wordsB x ps.length = false := by
        simp only [List.mem_cons, List.not_mem_nil, or_false] at hx
        rcases hx with rfl | rfl | rfl | rfl
        · exact ⟨rfl, (fun _ e => by cases e), rfl⟩
        · exact ⟨rfl, (fun _ e => by cases e), rfl⟩
        · subst eM
          refine ⟨rfl, fun ws e w hw1 => ?_, by simp [wordsB]⟩
          have e2 : ws = List.replicate 13 (wD is) := by injection e with e; exact e.symm
          subst e2
          have := List.eq_of_mem_replicate hw1
          subst this; exact okW_wD
        · exact ⟨rfl, (fun _ e => by cases e), rfl⟩
      have a1 := told5_er (A := A) (z := .int 0) (told_system_er2 (A := A) (st := st) h hx2.1 hx2.2.1 hx2.2.2)
      exact ⟨_, rfl, rfl, by simp [e_law_bad_hold_0, a1]⟩
    · exact small (by simp)
  simp [hL, hM, k1, mul4, r4, -x_mMulD, -x_mulT]
end K21

set_option Elab.async false
set_option linter.all false
set_option maxRecDepth 100000
set_option maxHeartbeats 4000000
namespace K21
open PySem L2 Fx
variable {A : Nat → Addr} {d : Nat}
theorem NX_post {a b : SS} {τ : En} {st : Store} {Φ : En → Store → Prop} (Ψ : En → Store → Prop) (h : ∃ τ1 st1, a τ st = .nx τ1 st1 ∧ Ψ τ1 st1) (k : ∀ τ1 st1, Ψ τ1 st1 → ∃ τ2 st2, b τ1 st1 = .nx τ2 st2 ∧ Φ τ2 st2) : ∃ τ2 st2, sSeq a b τ st = .nx τ2 st2 ∧ Φ τ2 st2 := by
  obtain ⟨τ1, st1, e, hΨ⟩ := h
  rw [x_sSeq, e, Rt.seq_nx]
  exact k _ _ hΨ
theorem NX_if {t : SB} {a b : SS} {τ : En} {st st1 : Store} {Φ : En → Store → Prop} (h : t τ st = .ok true st1) (k : ∃ τ2 st2, a τ st1 = .nx τ2 st2 ∧ Φ τ2 st2) : ∃ τ2 st2, sIf t a b τ st = .nx τ2 st2 ∧ Φ τ2 st2 := by
  obtain ⟨τ2, st2, e, hΦ⟩ := k
  exact ⟨τ2, st2, by rw [x_sIf, h]; exact e, hΦ⟩
theorem neg_tup {m : SE} {mi : SA} {τ : En} {st : Store} {is : List Int} (hi : mi τ st = .ok (is.map D.int).reverse st) (hl : is.length ≤ 5000) (h : ∀ i : Int, m (τ.set 14 (some (.int i))) st = .ok (.int (-i)) st) (h14 : ∀ i : Int, gN 14 (.int i) (wipeE τ [14]) = some (τ.set 14 (some (.int i)))) :
    mFn fTuple (mCons (mFrz (mComp mi (gN 14) mYes m [14])) mNil) τ st = .ok (wD (bk is)) st := by
  have g := compS_mapL (g := gN 14) (t := mYes) (m := m) (vs := [14]) (τ := τ) (st := st) (h := D.int) (f := fun i => D.int (-i)) is.reverse [] (fun i _ => ⟨_, h14 i, rfl, h i⟩) (by rw [PySem.sizeLine_eq]; simp; omega)
  rw [List.nil_append, List.map_reverse] at g
  have e : (is.reverse.map fun i => D.int (-i)) = (bk is).map D.int := by simp [bk]
  rw [e] at g
  simp [hi, g]
  rfl
theorem rev_wD {τ : En} {st : Store} {j : Nat} {is : List Int} (h : τ[j]? = some (some (wD is))) : mItems (mRevT (mVar j)) τ st = .ok (is.map D.int).reverse st := by
  simp [h, wD]
theorem add_wD {a b : List Int} {st : Store} (h : a.length + b.length ≤ 5000) : fAdd (wD a) (wD b) st = .ok (wD (a ++ b)) st := by
  have z : szFits ((a.map D.int).length + (b.map D.int).length) = true := szFits_iff.mpr (by rw [PySem.sizeLine_eq]; simp; omega)
  rw [wD, wD, x_addT, if_pos z, wD, List.map_append]
theorem walk_tup {ps : List (Pm d)} {is : List Int} {m : SE} {τ : En} {st : Store} (hd : d ≤ 1000) (h2 : τ[2]? = some (some (.int (d : Int)))) (h : ∀ x, x < d → ∃ τ1, gN 15 (nD x) (wipeE τ [15]) = some τ1 ∧ m τ1 st = .ok (nD ((wact ps is).f x)) st) :
    mFn fTuple (mCons (mFrz (mComp (mRng1 (mVar 2)) (gN 15) mYes m [15])) mNil) τ st = .ok (tp (wact ps is)) st := by
  have z : w62 (d : Int) = true := w62_of (by omega) (by omega)
  have g := led_comp (n := 0) (ps := ps) (is := is) (m := m) (g := gN 15) (vs := [15]) (τ := τ) (st := st) hd h
  simp [h2, z, range_nD, g]
  rfl
theorem ne_tp {p : Pm d} {st : Store} : fNe (tp p) (tp p) st = .ok (.bl false) st := fNe_self (fl_tp p)
theorem fl_sysD {ps : List (Pm d)} : Fl 3 (sysD ps) := Fl.tup fun x hx => by
  simp only [List.mem_cons, List.not_mem_nil, or_false] at hx
  rcases hx with rfl | rfl
  · exact Fl.int
  · exact fl_rD _
theorem ne_sysD {ps : List (Pm d)} {st : Store} : fNe (sysD ps) (sysD ps) st = .ok (.bl false) st := fNe_self fl_sysD
theorem ne_wD {is : List Int} {st : Store} : fNe (wD is) (wD is) st = .ok (.bl false) st := fNe_self fl_wD
theorem push_len (rs : List Int) (x : Int) : (push rs x).length ≤ rs.length + 1 := by
  cases rs with
  | nil => simp [push]
  | cons t r => rw [push]; split <;> simp; omega
theorem fold_len : ∀ (w rs : List Int), (w.foldl push rs).length ≤ rs.length + w.length
  | [], rs => by simp
  | x :: w, rs => by
    have h1 := fold_len w (push rs x)
    have h2 := push_len rs x
    simp only [List.foldl_cons, List.length_cons]; omega
theorem red_len (w : List Int) : (red w).length ≤ w.length := by
  have := fold_len w []
  simp only [red, List.length_reverse]
  simpa using this
theorem law_run (A : Nat → Addr) (sc : D) {s0 t0 : Int} (hstate : S_law_state A [sc] [] = .ok (.loc 0) [stt s0 t0]) (hs0 : 0 ≤ s0) : ∃ st', S_law A [sc] [] = .ok (.bl true) st' := by
  suffices h : RT (m_law (S_law_state A) (S_law_system A) (S_law_bad_hold A) (S_law_take A) (S_law_word A) (S_law_told A) (S_is_word A) (S_law_whole_reduced A) (S_law_walk A) (S_law_product A) (S_law_inverse A) [some sc, none, none, none, none, none, none, none, none, none, none, none, none, none, none, none, none, none] []) by
    obtain ⟨st', e⟩ := h
    rw [S_law_eq]
    have e2 : runF N_law (m_law (S_law_state A) (S_law_system A) (S_law_bad_hold A) (S_law_take A) (S_law_word A) (S_law_told A) (S_is_word A) (S_law_whole_reduced A) (S_law_walk A) (S_law_product A) (S_law_inverse A)) [sc] [] = .ok (.bl true) st' := runF_rt e
    exact ⟨[], gc_ok st' (by rw [e2]; rfl) (by simp [WfD])⟩
  unfold m_law
  -- the state
  refine RT_post (fun τ st => ∃ s t, τ = [some sc, some (.loc 0), none, none, none, none, none, none, none, none, none, none, none, none, none, none, none, none] ∧ st = [stt s t] ∧ 0 ≤ s) ⟨_, _, by first | (simp [hstate]; done) | (simp [hstate]; exact ⟨rfl, rfl⟩) | (simp [hstate]; rfl), s0, t0, rfl, rfl, hs0⟩ ?_
  rintro _ _ ⟨s, t, rfl, rfl, hs⟩
  -- the numbers
  refine RT_post (fun τ st => ∃ (s t : Int) (d k : Nat), τ = [some sc, some (.loc 0), some (.int (d : Int)), some (.int (k : Int)), none, none, none, none, none, none, none, none, none, none, none, none, none, none] ∧ st = [stt s t] ∧ 0 ≤ s ∧ 1 ≤ d ∧ d ≤ 8 ∧ k ≤ 4) ?_ ?_
  · obtain ⟨v, s1, t1, q1, hv, hs1⟩ := take_nat (A := A) (s := s) (t := t) (n := 8) (r := []) hs (by omega) (by omega)
    obtain ⟨u, s2, t2, q2, hu, hs2⟩ := take_nat (A := A) (s := s1) (t := t1) (n := 5) (r := []) hs1 (by omega) (by omega)
    simp at q1 q2
    refine ⟨_, _, by first | (simp [q1, q2]; done) | (simp [q1, q2]; exact ⟨rfl, rfl⟩) | (simp [q1, q2]; rfl), s2, t2, 1 + v, u, by simp, rfl, hs2, by omega, by omega, by omega⟩
  rintro _ _ ⟨s, t, d, k, rfl, rfl, hs, hd1, hd2, hk4⟩
  -- the system
  refine RT_post (fun τ st => ∃ (s t : Int) (ps : List (Pm d)), τ = [some sc, some (.loc 0), some (.int (d : Int)), some (.int (k : Int)), some (sysD ps), none, none, none, none, none, none, none, none, none, none, none, none, none] ∧ st = [stt s t] ∧ 0 ≤ s ∧ ps.length = k) ?_ ?_
  · obtain ⟨ps, s1, t1, q1, hs1, hl⟩ := law_system_eq (A := A) (s := s) (t := t) (k := k) hs hd1 (by omega) (by omega)
    exact ⟨_, _, by first | (simp [q1]; done) | (simp [q1]; exact ⟨rfl, rfl⟩) | (simp [q1]; rfl), s1, t1, ps, rfl, rfl, hs1, hl⟩
  rintro _ _ ⟨s, t, ps, rfl, rfl, hs, hl⟩
  have hS : Sys ps := ⟨by omega, by omega⟩
  -- two words
  refine RT_post (fun τ st => ∃ (s t : Int) (w v : List Int), τ = [some sc, some (.loc 0), some (.int (d : Int)), some (.int (k : Int)), some (sysD ps), some (wD w), some (wD v), none, none, none, none, none, none, none, none, none, none, none] ∧ st = [stt s t] ∧ 0 ≤ s ∧ w.length ≤ 20 ∧ v.length ≤ 20 ∧ (∀ i ∈ w, 1 ≤ i.natAbs ∧ i.natAbs ≤ k) ∧ (∀ i ∈ v, 1 ≤ i.natAbs ∧ i.natAbs ≤ k)) ?_ ?_
  · obtain ⟨w, s1, t1, q1, hs1, hw1, hw2⟩ := law_word_eq (A := A) (s := s) (t := t) (k := k) (m := 20) hs (by omega) (by omega)
    obtain ⟨v, s2, t2, q2, hs2, hv1, hv2⟩ := law_word_eq (A := A) (s := s1) (t := t1) (k := k) (m := 20) hs1 (by omega) (by omega)
    simp at q1 q2
    exact ⟨_, _, by first | (simp [q1, q2]; done) | (simp [q1, q2]; exact ⟨rfl, rfl⟩) | (simp [q1, q2]; rfl), s2, t2, w, v, rfl, rfl, hs2, hw1, hv1, hw2, hv2⟩
  rintro _ _ ⟨s, t, w0, v, rfl, rfl, hs, hw1, hv1, hw2, hv2⟩
  -- the opposite word
  refine RT_post (fun τ st => τ = [some sc, some (.loc 0), some (.int (d : Int)), some (.int (k : Int)), some (sysD ps), some (wD w0), some (wD v), some (wD (bk w0)), none, none, none, none, none, none, none, none, none, none] ∧ st = [stt s t]) ⟨_, _, by
    rw [x_sSet, neg_tup (rev_wD (is := w0) rfl) (by omega) (fun i => by simp [e_law_10]) (fun i => rfl)]; rfl, rfl, rfl⟩ ?_
  rintro _ _ ⟨rfl, rfl⟩
  -- one of four words
  refine RT_post (fun τ st => ∃ (s t : Int) (w : List Int), τ = [some sc, some (.loc 0), some (.int (d : Int)), some (.int (k : Int)), some (sysD ps), some (wD w), some (wD v), some (wD (bk w0)), none, none, none, none, none, none, none, none, none, none] ∧ st = [stt s t] ∧ 0 ≤ s ∧ w.length ≤ 60 ∧ ∀ i ∈ w, 1 ≤ i.natAbs ∧ i.natAbs ≤ k) ?_ ?_
  · obtain ⟨u, s1, t1, q1, hu, hs1⟩ := take_nat (A := A) (s := s) (t := t) (n := 4) (r := []) hs (by omega) (by omega)
    simp at q1
    have b1 := bk_len w0
    have b2 := bk_len v
    have l1 := bk_let hw2
    have l2 := bk_let hv2
    have hB := neg_tup (m := e_law_9) (τ := [some sc, some (.loc 0), some (.int (d : Int)), some (.int (k : Int)), some (sysD ps), some (wD w0), some (wD v), some (wD (bk w0)), none, none, none, none, none, none, none, none, none, none]) (st := [stt s t]) (rev_wD (j := 6) (is := v) rfl) (by omega) (fun i => by simp [e_law_9]) (fun i => rfl)
    have a1 := add_wD (a := w0) (b := v) (st := [stt s t]) (by omega)
    have a2 := add_wD (a := w0 ++ v) (b := bk v) (st := [stt s t]) (by simp; omega)
    have a3 := add_wD (a := w0) (b := bk w0) (st := [stt s t]) (by omega)
    have a4 := add_wD (a := w0 ++ bk w0) (b := v) (st := [stt s t]) (by simp; omega)
    have a5 := add_wD (a := bk w0) (b := v) (st := [stt s t]) (by omega)
    obtain ⟨w, hi, hw, hwl⟩ : ∃ w, atI [wD w0, wD ((w0 ++ v) ++ bk v), wD ((w0 ++ bk w0) ++ v), wD (bk w0 ++ v)] (u : Int) = some (wD w) ∧ w.length ≤ 60 ∧ ∀ i ∈ w, 1 ≤ i.natAbs ∧ i.natAbs ≤ k := by
      have hu4 : u = 0 ∨ u = 1 ∨ u = 2 ∨ u = 3 := by omega
      rcases hu4 with rfl | rfl | rfl | rfl
      · exact ⟨w0, rfl, by omega, hw2⟩
      · exact ⟨(w0 ++ v) ++ bk v, rfl, by simp; omega, app_let (app_let hw2 hv2) l2⟩
      · exact ⟨(w0 ++ bk w0) ++ v, rfl, by simp; omega, app_let (app_let hw2 l1) hv2⟩
      · exact ⟨bk w0 ++ v, rfl, by simp; omega, app_let l1 hv2⟩
    refine ⟨[some sc, some (.loc 0), some (.int (d : Int)), some (.int (k : Int)), some (sysD ps), some (wD w), some (wD v), some (wD (bk w0)), none, none, none, none, none, none, none, none, none, none], [stt s1 t1], ?_, s1, t1, w, rfl, rfl, hs1, hw, hwl⟩
    obtain ⟨W0, hW0⟩ : ∃ x, x = wD w0 := ⟨_, rfl⟩
    obtain ⟨VV, hVV⟩ : ∃ x, x = wD v := ⟨_, rfl⟩
    simp [hB, a1, a2, a3, a4, a5, q1, -x_mFn, -List.append_assoc]
    rw [hi]; rfl
  rintro _ _ ⟨s, t, w, rfl, rfl, hs, hwl, hwi⟩
  -- its opposite word
  refine RT_post (fun τ st => τ = [some sc, some (.loc 0), some (.int (d : Int)), some (.int (k : Int)), some (sysD ps), some (wD w), some (wD v), some (wD (bk w)), none, none, none, none, none, none, none, none, none, none] ∧ st = [stt s t]) ⟨_, _, by
    rw [x_sSet, neg_tup (rev_wD (is := w) rfl) (by omega) (fun i => by simp [e_law_8]) (fun i => rfl)]; rfl, rfl, rfl⟩ ?_
  rintro _ _ ⟨rfl, rfl⟩
  have hW : Wd k w := ⟨by omega, hwi⟩
  have hV : Wd k v := ⟨by omega, hv2⟩
  have hBk : Wd k (bk w) := ⟨by rw [bk_len]; omega, bk_let hwi⟩
  have hWV : Wd k (w ++ v) := ⟨by simp; omega, app_let hwi hv2⟩
  have hrl : (red w).length ≤ 1000 := Nat.le_trans (red_len w) (by omega)
  -- opposite, reduced
  refine RT_post (fun τ st => τ = [some sc, some (.loc 0), some (.int (d : Int)), some (.int (k : Int)), some (sysD ps), some (wD w), some (wD v), some (wD (bk w)), none, none, none, none, none, none, none, none, none, none] ∧ st = [stt s t]) ?_ ?_
  · have c1 := is_word_ok (A := A) (st := [stt s t]) hW (by omega)
    have c2 := tell0 (A := A) (z := .int 0) (st := [stt s t]) hW (by omega) (by omega)
    have c3 := tell1 (A := A) (z := .int 0) (st := [stt s t]) hW (by omega) hrl
    have c4 := whole_eq (A := A) (w := w) (st := [stt s t]) (by omega)
    exact ⟨_, _, by first | (simp [c1, c2, c3, c4, ne_wD]; done) | (simp [c1, c2, c3, c4, ne_wD]; exact ⟨rfl, rfl⟩) | (simp [c1, c2, c3, c4, ne_wD]; rfl), rfl, rfl⟩
  rintro _ _ ⟨rfl, rfl⟩
  subst hl
  -- the walks
  refine RT_post (fun τ st => τ = [some sc, some (.loc 0), some (.int (d : Int)), some (.int (ps.length : Int)), some (sysD ps), some (wD w), some (wD v), some (wD (bk w)), some (tp (wact ps w)), none, none, none, none, none, none, none, none, none] ∧ st = [stt s t]) ?_ ?_
  · refine ⟨_, _, by
      rw [x_sSet, walk_tup (ps := ps) (is := w) (by omega) rfl (fun x hx => ⟨_, rfl, by
        have q := law_walk_eq (A := A) (ps := ps) (is := w) (st := [stt s t]) (by omega) hwi hx
        simp only [nD] at q ⊢
        simp [e_law_7, q]⟩)]; rfl, rfl, rfl⟩
  rintro _ _ ⟨rfl, rfl⟩
  refine RT_post (fun τ st => τ = [some sc, some (.loc 0), some (.int (d : Int)), some (.int (ps.length : Int)), some (sysD ps), some (wD w), some (wD v), some (wD (bk w)), some (tp (wact ps w)), none, none, none, none, none, none, none, none, none] ∧ st = [stt s t]) ?_ ?_
  · have c1 := tell3 (A := A) (z := .int 0) (st := [stt s t]) hS hW
    have c2 := walk_tup (ps := ps) (is := w) (m := e_law_6 (S_law_told A)) (τ := [some sc, some (.loc 0), some (.int (d : Int)), some (.int (ps.length : Int)), some (sysD ps), some (wD w), some (wD v), some (wD (bk w)), some (tp (wact ps w)), none, none, none, none, none, none, none, none, none]) (st := [stt s t]) (by omega) rfl (fun x hx => ⟨_, rfl, by
        have q := tell2 (A := A) (st := [stt s t]) hS hW hx
        simp only [nD] at q ⊢
        simp [e_law_6, q]⟩)
    exact ⟨_, _, by first | (simp [c1, c2, ne_tp, -x_mFn]; done) | (simp [c1, c2, ne_tp, -x_mFn]; exact ⟨rfl, rfl⟩) | (simp [c1, c2, ne_tp, -x_mFn]; rfl), rfl, rfl⟩
  rintro _ _ ⟨rfl, rfl⟩
  refine RT_post (fun τ st => τ = [some sc, some (.loc 0), some (.int (d : Int)), some (.int (ps.length : Int)), some (sysD ps), some (wD w), some (wD v), some (wD (bk w)), some (tp (wact ps w)), none, none, none, none, none, none, none, none, none] ∧ st = [stt s t]) ?_ ?_
  · have c1 := tell3 (A := A) (z := .int 0) (st := [stt s t]) hS hWV
    have c2 := tell3 (A := A) (z := .int 0) (st := [stt s t]) hS hV
    have c3 := tell3 (A := A) (z := .int 0) (st := [stt s t]) hS hBk
    rw [wact_app] at c1
    rw [wact_bk ps w (fun i hi => by have := (hwi i hi).1; omega)] at c3
    have c4 := add_wD (a := w) (b := v) (st := [stt s t]) (by omega)
    have c5 := product_eq (A := A) (p := wact ps w) (q := wact ps v) (st := [stt s t]) (by omega)
    have c6 := law_inverse_eq (A := A) (p := wact ps w) (st := [stt s t]) (by omega)
    exact ⟨_, _, by first | (simp [c1, c2, c3, c4, c5, c6, ne_tp]; done) | (simp [c1, c2, c3, c4, c5, c6, ne_tp]; exact ⟨rfl, rfl⟩) | (simp [c1, c2, c3, c4, c5, c6, ne_tp]; rfl), rfl, rfl⟩
  rintro _ _ ⟨rfl, rfl⟩
  -- the words
  refine RT_post (fun τ st => ∃ (s t : Int) (ws : List (List Int)), τ = [some sc, some (.loc 0), some (.int (d : Int)), some (.int (ps.length : Int)), some (sysD ps), some (wD w), some (wD v), some (wD (bk w)), some (tp (wact ps w)), some (.tup (ws.map wD)), none, none, none, none, none, none, none, none] ∧ st = [stt s t] ∧ 0 ≤ s ∧ ws.length ≤ 12 ∧ ∀ w ∈ ws, Wd ps.length w) ?_ ?_
  · obtain ⟨n, s1, t1, q1, hn, hs1⟩ := take_nat (A := A) (s := s) (t := t) (n := 13) (r := []) hs (by omega) (by omega)
    simp at q1
    have z : w62 (n : Int) = true := w62_of (by omega) (by omega)
    obtain ⟨st', acc', e, s', t', ws, e1, hs', e2, hl, hW⟩ := compS_ind (g := gN 16) (t := mYes) (m := e_law_5 (S_law_word A)) (vs := [16]) (τ := [some sc, some (.loc 0), some (.int (d : Int)), some (.int (ps.length : Int)), some (sysD ps), some (wD w), some (wD v), some (wD (bk w)), some (tp (wact ps w)), none, none, none, none, none, none, none, none, none])
      (P := fun ds st acc => ∃ (s t : Int) (ws : List (List Int)), st = [stt s t] ∧ 0 ≤ s ∧ acc = ws.map wD ∧ ws.length + ds.length = n ∧ ∀ w ∈ ws, Wd ps.length w)
      (fun y ys st acc ⟨s, t, ws, e1, hs, e2, hl, hW⟩ => by
        subst e1 e2
        simp only [List.length_cons] at hl
        obtain ⟨w1, s', t', q, hs', hl1, hi1⟩ := law_word_eq (A := A) (s := s) (t := t) (k := ps.length) (m := 6) hs (by omega) (by omega)
        simp at q
        refine ⟨_, rfl, .inl ⟨_, wD w1, [stt s' t'], rfl, by simp [e_law_5, q], small1000 (by simp; omega), s', t', ws ++ [w1], rfl, hs', by simp, by simp; omega, fun u hu => ?_⟩⟩
        rcases List.mem_append.mp hu with hu | hu
        · exact hW u hu
        · rw [List.mem_singleton] at hu; subst hu; exact ⟨by omega, hi1⟩)
      (rangeD 0 (n : Int)) [stt s1 t1] [] ⟨s1, t1, [], rfl, hs1, rfl, by simp, by simp⟩
    subst e1 e2
    exact ⟨_, _, by first | (simp [q1, z, e]; done) | (simp [q1, z, e]; exact ⟨rfl, rfl⟩) | (simp [q1, z, e]; rfl), s', t', ws, rfl, rfl, hs', by simp at hl; omega, hW⟩
  rintro _ _ ⟨s, t, ws, rfl, rfl, hs, hwsl, hws⟩
  -- their permutations
  refine RT_post (fun τ st => τ = [some sc, some (.loc 0), some (.int (d : Int)), some (.int (ps.length : Int)), some (sysD ps), some (wD w), some (wD v), some (wD (bk w)), some (tp (wact ps w)), some (.tup (ws.map wD)), some (rD (ws.map (wact ps))), none, none, none, none, none, none, none] ∧ st = [stt s t]) ?_ ?_
  · have k2 : compS (gN 17) mYes (e_law_4 (S_law_walk A)) [17] (ws.map wD) [some sc, some (.loc 0), some (.int (d : Int)), some (.int (ps.length : Int)), some (sysD ps), some (wD w), some (wD v), some (wD (bk w)), some (tp (wact ps w)), some (.tup (ws.map wD)), none, none, none, none, none, none, none, none] [stt s t] [] = .ok ((ws.map (wact ps)).map tp) [stt s t] := by
      rw [compS_mapL (f := fun w => tp (wact ps w))]
      · simp
      · intro w1 hw1
        refine ⟨_, rfl, rfl, ?_⟩
        unfold e_law_4
        exact walk_tup (ps := ps) (is := w1) (by omega) rfl (fun x hx => ⟨_, rfl, by
          have q := law_walk_eq (A := A) (ps := ps) (is := w1) (st := [stt s t]) (by omega) (hws w1 hw1).let_ hx
          simp only [nD] at q ⊢
          simp [e_law_3, q]⟩)
      · exact small (by simp; omega)
    obtain ⟨WS, hWS⟩ : ∃ WS, WS = ws.map wD := ⟨_, rfl⟩
    obtain ⟨L3, hL3⟩ : ∃ L3, L3 = (ws.map (wact ps)).map tp := ⟨_, rfl⟩
    rw [← hWS, ← hL3] at k2
    have er : rD (ws.map (wact ps)) = .tup L3 := by rw [hL3]; rfl
    rw [← hWS, er]
    exact ⟨_, _, by first | (simp [k2]; done) | (simp [k2]; exact ⟨rfl, rfl⟩) | (simp [k2]; rfl), rfl, rfl⟩
  rintro _ _ ⟨rfl, rfl⟩
  refine RT_post (fun τ st => τ = [some sc, some (.loc 0), some (.int (d : Int)), some (.int (ps.length : Int)), some (sysD ps), some (wD w), some (wD v), some (wD (bk w)), some (tp (wact ps w)), some (.tup (ws.map wD)), some (rD (ws.map (wact ps))), none, none, none, none, none, none, none] ∧ st = [stt s t]) ?_ ?_
  · have c1 := tell5 (A := A) (z := .int 0) (st := [stt s t]) hS hws hwsl
    have c2 : fNe (sysD (ws.map (wact ps))) (.tup [.int (d : Int), rD (ws.map (wact ps))]) [stt s t] = .ok (.bl false) [stt s t] := ne_sysD
    obtain ⟨WS, hWS⟩ : ∃ WS, WS = ws.map wD := ⟨_, rfl⟩
    rw [← hWS] at c1 ⊢
    exact ⟨_, _, by first | (simp [c1, c2]; done) | (simp [c1, c2]; exact ⟨rfl, rfl⟩) | (simp [c1, c2]; rfl), rfl, rfl⟩
  rintro _ _ ⟨rfl, rfl⟩
  obtain ⟨WS, hWS⟩ : ∃ WS : D, WS = .tup (ws.map wD) := ⟨_, rfl⟩
  obtain ⟨PS, hPS⟩ : ∃ PS : D, PS = rD (ws.map (wact ps)) := ⟨_, rfl⟩
  obtain ⟨DU, hDU⟩ : ∃ DU : D, DU = tp (wact ps w) := ⟨_, rfl⟩
  rw [← hWS, ← hPS, ← hDU]
  clear hWS hPS hDU
  -- the long word
  refine RT_post (fun τ st => ∃ (s t : Int) (L O : Option D), τ = [some sc, some (.loc 0), some (.int (d : Int)), some (.int (ps.length : Int)), some (sysD ps), some (wD w), some (wD v), some (wD (bk w)), some DU, some WS, some PS, L, O, none, none, none, none, none] ∧ st = [stt s t]) ?_ ?_
  · by_cases c : ps.length = 0
    · have c' : ¬ 0 < ps.length := by omega
      exact ⟨_, _, by first | (simp [c']; done) | (simp [c']; exact ⟨rfl, rfl⟩) | (simp [c']; rfl), s, t, none, none, rfl, rfl⟩
    · have c' : (0 : Int) < (ps.length : Int) := by omega
      refine NX_if (st1 := [stt s t]) (by simp; omega) ?_
      refine NX_post (fun τ st => ∃ (s t : Int) (l : List Int), τ = [some sc, some (.loc 0), some (.int (d : Int)), some (.int (ps.length : Int)), some (sysD ps), some (wD w), some (wD v), some (wD (bk w)), some DU, some WS, some PS, some (wD l), none, none, none, none, none, none] ∧ st = [stt s t] ∧ l.length = 2000 ∧ ∀ i ∈ l, 1 ≤ i.natAbs ∧ i.natAbs ≤ ps.length) ?_ ?_
      · have z : w62 20 = true := w62_of (by omega) (by omega)
        obtain ⟨st', acc', e, s', t', is, e1, hs', e2, hn, hi⟩ := compS_ind (g := gN 16) (t := mYes) (m := e_law_2 (S_law_take A)) (vs := [16]) (τ := [some sc, some (.loc 0), some (.int (d : Int)), some (.int (ps.length : Int)), some (sysD ps), some (wD w), some (wD v), some (wD (bk w)), some DU, some WS, some PS, none, none, none, none, none, none, none])
          (P := fun ds st acc => ∃ (s t : Int) (is : List Int), st = [stt s t] ∧ 0 ≤ s ∧ acc = is.map D.int ∧ is.length + ds.length = 20 ∧ ∀ i ∈ is, 1 ≤ i.natAbs ∧ i.natAbs ≤ ps.length)
          (fun y ys st acc ⟨s, t, is, e1, hs, e2, hn, hi⟩ => by
            subst e1 e2
            simp only [List.length_cons] at hn
            obtain ⟨u, s2, t2, q2, hu, hs2⟩ := take_nat (A := A) (s := s) (t := t) (n := ps.length) (r := []) hs (by omega) (by omega)
            refine ⟨_, rfl, .inl ⟨_, .int (1 + (u : Int)), [stt s2 t2], rfl, by simp [e_law_2, q2], small1000 (by simp; omega), s2, t2, is ++ [1 + (u : Int)], rfl, hs2, by simp, by simp; omega, fun i hi' => ?_⟩⟩
            rcases List.mem_append.mp hi' with h | h
            · exact hi i h
            · rw [List.mem_singleton] at h; subst h; omega)
          (rangeD 0 20) [stt s t] [] ⟨s, t, [], rfl, hs, rfl, by simp, by simp⟩
        subst e1 e2
        simp at hn
        have ef : (List.replicate 100 (is.map D.int)).flatten = ((List.replicate 100 is).flatten).map D.int := by rw [List.map_flatten, List.map_replicate]
        have m1 : fMul (.tup (is.map D.int)) (.int 100) [stt s' t'] = .ok (wD (List.replicate 100 is).flatten) [stt s' t'] := by
          rw [x_mulT, if_pos (repFits_iff.mpr ⟨by rw [List.length_map]; omega, by omega, by omega, by rw [List.length_map]; simp; omega⟩), wD, ← ef]; rfl
        obtain ⟨l, hl⟩ : ∃ l, l = (List.replicate 100 is).flatten := ⟨_, rfl⟩
        rw [← hl] at m1
        refine ⟨_, _, by first | (simp [z, e, m1, -x_mulT]; done) | (simp [z, e, m1, -x_mulT]; exact ⟨rfl, rfl⟩) | (simp [z, e, m1, -x_mulT]; rfl), s', t', l, rfl, rfl, by rw [hl, PyProof.Rows.lm_len_rep_flat, hn], fun i hi2 => ?_⟩
        rw [hl] at hi2
        obtain ⟨l', hl1, hl2⟩ := List.mem_flatten.mp hi2
        have := List.eq_of_mem_replicate hl1
        subst this
        exact hi i hl2
      clear hs
      rintro _ _ ⟨s, t, l, rfl, rfl, hll, hli⟩
      have hL : Wd ps.length l := ⟨by omega, hli⟩
      obtain ⟨ST, hST⟩ : ∃ ST : Store, ST = [stt s t] := ⟨_, rfl⟩
      rw [← hST]
      refine NX_post (fun τ st => τ = [some sc, some (.loc 0), some (.int (d : Int)), some (.int (ps.length : Int)), some (sysD ps), some (wD w), some (wD v), some (wD (bk w)), some DU, some WS, some PS, some (wD l), none, none, none, none, none, none] ∧ st = ST) ?_ ?_
      · have c1 := is_word_ok (A := A) (st := ST) hL hS.rank
        have c2 := tell2 (A := A) (x := 0) (st := ST) hS hL (by omega)
        have c3 := law_walk_eq (A := A) (ps := ps) (is := l) (x := 0) (st := ST) (by omega) hli (by omega)
        simp only [nD] at c2 c3
        simp at c2 c3
        exact ⟨_, _, by first | (simp [c1, c2, c3]; done) | (simp [c1, c2, c3]; exact ⟨rfl, rfl⟩) | (simp [c1, c2, c3]; rfl), rfl, rfl⟩
      rintro _ ST ⟨rfl, rfl⟩
      refine NX_post (fun τ st => τ = [some sc, some (.loc 0), some (.int (d : Int)), some (.int (ps.length : Int)), some (sysD ps), some (wD w), some (wD v), some (wD (bk w)), some DU, some WS, some PS, some (wD l), some (wD (l ++ bk l)), none, none, none, none, none] ∧ st = ST) ?_ ?_
      · have hB := neg_tup (m := e_law_1) (τ := [some sc, some (.loc 0), some (.int (d : Int)), some (.int (ps.length : Int)), some (sysD ps), some (wD w), some (wD v), some (wD (bk w)), some DU, some WS, some PS, some (wD l), none, none, none, none, none, none]) (st := ST) (rev_wD (j := 11) (is := l) rfl) (by omega) (fun i => by simp [e_law_1]) (fun i => rfl)
        have a1 := add_wD (a := l) (b := bk l) (st := ST) (by rw [bk_len]; omega)
        exact ⟨_, _, by first | (simp [hB, a1, -x_mFn]; done) | (simp [hB, a1, -x_mFn]; exact ⟨rfl, rfl⟩) | (simp [hB, a1, -x_mFn]; rfl), rfl, rfl⟩
      rintro _ ST ⟨rfl, rfl⟩
      obtain ⟨l2, hl2⟩ : ∃ l2, l2 = l ++ bk l := ⟨_, rfl⟩
      obtain ⟨h, hh⟩ : ∃ h, h = l.take 1000 := ⟨_, rfl⟩
      have hhl : h.length = 1000 := by rw [hh, List.length_take]; omega
      have hhi : ∀ i ∈ h, 1 ≤ i.natAbs ∧ i.natAbs ≤ ps.length := fun i hi => hli i (List.mem_of_mem_take (by rw [← hh]; exact hi))
      have hsl : fSl (wD l) none (some 1000) ST = .ok (wD h) ST := by
        have e1 : cutD (l.map D.int) none (some ((1000 : Nat) : Int)) = (l.map D.int).take 1000 := cut_hi (by simp; omega)
        have e2 : cutD (l.map D.int) none (some 1000) = h.map D.int := by rw [hh, List.map_take]; exact e1
        rw [wD, x_slT, e2]; rfl
      have c1 : S_is_word A [wD l2, .int (ps.length : Int)] ST = .ok (.bl false) ST := by
        rw [is_word_eq okW_wD hS.rank]
        have : wordB (wD l2) ps.length = false := by
          simp only [wordB, wD]
          rw [decide_eq_false (by simp [hl2, bk_len]; omega)]; rfl
        rw [this]
      have hB := neg_tup (m := e_law_0) (mi := mItems (mRevT (mSl fSl (mVar 11) mNoPart (mPart (mC (.int 1000)))))) (is := h) (τ := [some sc, some (.loc 0), some (.int (d : Int)), some (.int (ps.length : Int)), some (sysD ps), some (wD w), some (wD v), some (wD (bk w)), some DU, some WS, some PS, some (wD l), some (wD l2), none, none, none, none, none]) (st := ST) (by simp [hsl]; rfl) (by omega) (fun i => by simp [e_law_0]) (fun i => rfl)
      have a1 := add_wD (a := h) (b := bk h) (st := ST) (by rw [bk_len]; omega)
      have c3 := tell1 (A := A) (z := .int 0) (st := ST) (is := h ++ bk h) (k := ps.length) ⟨by simp [bk_len]; omega, app_let hhi (bk_let hhi)⟩ hS.rank (by rw [red_bk _ h rfl]; simp)
      rw [red_bk _ h rfl] at c3
      have c4 : fNe (wD []) (.tup []) ST = .ok (.bl false) ST := ne_wD (is := [])
      rw [← hl2]
      refine ⟨[some sc, some (.loc 0), some (.int (d : Int)), some (.int (ps.length : Int)), some (sysD ps), some (wD w), some (wD v), some (wD (bk w)), some DU, some WS, some PS, some (wD l), some (wD l2), none, none, none, none, none], ST, ?_, s, t, some (wD l), some (wD l2), rfl, hST⟩
      simp [c1, hsl, hB, a1, c3, c4, -x_mFn]
  clear hs
  rintro _ _ ⟨s, t, L, O, rfl, rfl⟩
  -- values that are no systems
  refine RT_post (fun τ st => ∃ (B : Option D), τ = [some sc, some (.loc 0), some (.int (d : Int)), some (.int (ps.length : Int)), some (sysD ps), some (wD w), some (wD v), some (wD (bk w)), some DU, some WS, some PS, L, O, B, none, none, none, none] ∧ st = [stt s t]) ?_ ?_
  · obtain ⟨τ', st', e, B, e1, e2, _⟩ := forS_ind (g := gN 13) (b := B_law_0 A)
      (P := fun ds τ st' => ∃ (B : Option D), τ = [some sc, some (.loc 0), some (.int (d : Int)), some (.int (ps.length : Int)), some (sysD ps), some (wD w), some (wD v), some (wD (bk w)), some DU, some WS, some PS, L, O, B, none, none, none, none] ∧ st' = [stt s t] ∧ ∀ x ∈ ds, BadS A x)
      (fun y ys τ st' ⟨B, e1, e2, e3⟩ => by
        subst e1 e2
        obtain ⟨t2, _, _⟩ := badS_told (A := A) (y := .int 0) (z := .tup []) (e3 y List.mem_cons_self) (st := [stt s t])
        obtain ⟨_, t3, t5⟩ := badS_told (A := A) (y := .tup []) (z := .int 0) (e3 y List.mem_cons_self) (st := [stt s t])
        refine ⟨_, rfl, _, [stt s t], .inl ?_, some y, rfl, rfl, fun x hx => e3 x (List.mem_cons_of_mem _ hx)⟩
        simp [b_law_0, t2, t3, t5, mul3, r3, -x_mMulD])
      [.non, .tup [.int 1], .tup [.int 2, .tup [.tup [.int 0, .int 0]]], .tup [.int 25, .tup []]] [some sc, some (.loc 0), some (.int (d : Int)), some (.int (ps.length : Int)), some (sysD ps), some (wD w), some (wD v), some (wD (bk w)), some DU, some WS, some PS, L, O, none, none, none, none, none] [stt s t] ⟨none, rfl, rfl, fun x hx => by
        simp only [List.mem_cons, List.not_mem_nil, or_false] at hx
        rcases hx with rfl | rfl | rfl | rfl
        · exact badS1
        · exact badS2
        · exact badS3
        · exact badS4⟩
    subst e1 e2
    exact ⟨_, _, by first | (simp [e]; done) | (simp [e]; exact ⟨rfl, rfl⟩) | (simp [e]; rfl), B, rfl, rfl⟩
  rintro _ _ ⟨B, rfl, rfl⟩
  have c1 := bad_hold_eq (A := A) (is := w) (st := [stt s t]) hS hd1 hW
  exact ⟨[stt s t], by simp [c1]⟩
theorem law_true (A : Nat → Addr) (ns : List Int) (h : ns.length ≤ 63) : ∃ st', S_law A [.lst (ns.map D.int)] [] = .ok (.bl true) st' := by
  obtain ⟨s, t, e, hs⟩ := state_eq (A := A) ns
  exact law_run A _ e hs
end K21

open PySem PySem.W PyProof.Rows
set_option maxRecDepth 100000 in
set_option maxHeartbeats 0 in
theorem PySem.Challenge.cw_branchsheets_k21_whole_words_holds : PySem.Challenge.rw_branchsheets_k21_whole_words.Holds := by
  w_on; o_law; k_head; (case hw => w_witness2)
  k_fill
  refine Fx.walkF (l := PySem.Challenge.rw_branchsheets_k21_whole_words) (k := 9) rfl rfl ⟨rfl, by decide, by decide⟩ (fun w h Y => PySem.W.kIn_of Y) ?F
  case F =>
    intro w mg fa h KX G hmg
    refine' K21.all_mk KX G hmg ?a31 ?l31 ?c31 ?k31 ?a32 ?l32 ?c32 ?k32 ?a36 ?l36 ?c36 ?k36 ?a37 ?l37 ?c37 ?k37 ?a38 ?l38 ?c38 ?k38 ?a33 ?l33 ?c33 ?k33 ?a34 ?l34 ?c34 ?k34 ?a35 ?l35 ?c35 ?k35 ?a29 ?l29 ?c29 ?k29 ?a30 ?l30 ?c30 ?k30 ?a4 ?l4 ?c4 ?k4 ?a18 ?l18 ?c18 ?k18 ?a19 ?l19 ?c19 ?k19 ?a20 ?l20 ?c20 ?k20 ?a21 ?l21 ?c21 ?k21 ?a22 ?l22 ?c22 ?k22 ?a6 ?l6 ?c6 ?k6 ?a14 ?l14 ?c14 ?k14 ?a15 ?l15 ?c15 ?k15 ?a16 ?l16 ?c16 ?k16 ?a17 ?l17 ?c17 ?k17 ?a24 ?l24 ?c24 ?k24 ?a7 ?l7 ?c7 ?k7 ?a8 ?l8 ?c8 ?k8 ?a9 ?l9 ?c9 ?k9 ?a23 ?l23 ?c23 ?k23 ?a25 ?l25 ?c25 ?k25 ?a26 ?l26 ?c26 ?k26 ?a27 ?l27 ?c27 ?k27 ?a44 ?l44 ?c44 ?k44 ?a47 ?l47 ?c47 ?k47 ?a39 ?l39 ?c39 ?k39 ?a40 ?l40 ?c40 ?k40 ?a45 ?l45 ?c45 ?k45 ?a46 ?l46 ?c46 ?k46 ?a41 ?l41 ?c41 ?k41 ?a42 ?l42 ?c42 ?k42 ?a43 ?l43 ?c43 ?k43 ?a48 ?l48 ?c48 ?k48 ?z_abs ?z_all ?z_bool ?z_enumerate ?z_int ?z_isinstance ?z_len ?z_list ?z_range ?z_str ?z_tuple ?c_MOST_LETTERS ?c_MOST_RANK ?c_MOST_SHEETS ?a2 ?q2 ?k2 ?b2 ?t2 ?i2 ?s2_2 K21.law_true
    (case a31 => k_is); (case l31 => k_is); (case c31 => k_is); (case k31 => k_is); (case a32 => k_is); (case l32 => k_is)
    (case c32 => k_is); (case k32 => k_is); (case a36 => k_is); (case l36 => k_is); (case c36 => k_is); (case k36 => k_is)
    (case a37 => k_is); (case l37 => k_is); (case c37 => k_is); (case k37 => k_is); (case a38 => k_is); (case l38 => k_is)
    (case c38 => k_is); (case k38 => k_is); (case a33 => k_is); (case l33 => k_is); (case c33 => k_is); (case k33 => k_is)
    (case a34 => k_is); (case l34 => k_is); (case c34 => k_is); (case k34 => k_is); (case a35 => k_is); (case l35 => k_is)
    (case c35 => k_is); (case k35 => k_is); (case a29 => k_is); (case l29 => k_is); (case c29 => k_is); (case k29 => k_is)
    (case a30 => k_is); (case l30 => k_is); (case c30 => k_is); (case k30 => k_is); (case a4 => k_is); (case l4 => k_is)
    (case c4 => k_is); (case k4 => k_is); (case a18 => k_is); (case l18 => k_is); (case c18 => k_is); (case k18 => k_is)
    (case a19 => k_is); (case l19 => k_is); (case c19 => k_is); (case k19 => k_is); (case a20 => k_is); (case l20 => k_is)
    (case c20 => k_is); (case k20 => k_is); (case a21 => k_is); (case l21 => k_is); (case c21 => k_is); (case k21 => k_is)
    (case a22 => k_is); (case l22 => k_is); (case c22 => k_is); (case k22 => k_is); (case a6 => k_is); (case l6 => k_is)
    (case c6 => k_is); (case k6 => k_is); (case a14 => k_is); (case l14 => k_is); (case c14 => k_is); (case k14 => k_is)
    (case a15 => k_is); (case l15 => k_is); (case c15 => k_is); (case k15 => k_is); (case a16 => k_is); (case l16 => k_is)
    (case c16 => k_is); (case k16 => k_is); (case a17 => k_is); (case l17 => k_is); (case c17 => k_is); (case k17 => k_is)
    (case a24 => k_is); (case l24 => k_is); (case c24 => k_is); (case k24 => k_is); (case a7 => k_is); (case l7 => k_is)
    (case c7 => k_is); (case k7 => k_is); (case a8 => k_is); (case l8 => k_is); (case c8 => k_is); (case k8 => k_is)
    (case a9 => k_is); (case l9 => k_is); (case c9 => k_is); (case k9 => k_is); (case a23 => k_is); (case l23 => k_is)
    (case c23 => k_is); (case k23 => k_is); (case a25 => k_is); (case l25 => k_is); (case c25 => k_is); (case k25 => k_is)
    (case a26 => k_is); (case l26 => k_is); (case c26 => k_is); (case k26 => k_is); (case a27 => k_is); (case l27 => k_is)
    (case c27 => k_is); (case k27 => k_is); (case a44 => k_is); (case l44 => k_is); (case c44 => k_is); (case k44 => k_is)
    (case a47 => k_is); (case l47 => k_is); (case c47 => k_is); (case k47 => k_is); (case a39 => k_is); (case l39 => k_is)
    (case c39 => k_is); (case k39 => k_is); (case a40 => k_is); (case l40 => k_is); (case c40 => k_is); (case k40 => k_is)
    (case a45 => k_is); (case l45 => k_is); (case c45 => k_is); (case k45 => k_is); (case a46 => k_is); (case l46 => k_is)
    (case c46 => k_is); (case k46 => k_is); (case a41 => k_is); (case l41 => k_is); (case c41 => k_is); (case k41 => k_is)
    (case a42 => k_is); (case l42 => k_is); (case c42 => k_is); (case k42 => k_is); (case a43 => k_is); (case l43 => k_is)
    (case c43 => k_is); (case k43 => k_is); (case a48 => k_is); (case l48 => k_is); (case c48 => k_is); (case k48 => k_is)
    (case z_abs => k_is); (case z_all => k_is); (case z_bool => k_is); (case z_enumerate => k_is); (case z_int => k_is); (case z_isinstance => k_is)
    (case z_len => k_is); (case z_list => k_is); (case z_range => k_is); (case z_str => k_is); (case z_tuple => k_is); (case c_MOST_LETTERS => k_is)
    (case c_MOST_RANK => k_is); (case c_MOST_SHEETS => k_is); (case a2 => k_is); (case q2 => k_exc); (case k2 => k_is); (case b2 => k_is)
    (case t2 => k_is); (case i2 => k_is); (case s2_2 => first | rfl | k_is)

